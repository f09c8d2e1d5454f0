import PyProof.Rows.All
import Wide.All
import OpenK.AllK
import Wide.FinOn
import HandS.ForMost
import HandS.Wide
import HandS.Deep
import KE.SortData
import HandS.EndBits
import PyProof.ReprRoads
import KE.DataIsa
import Flt.Sum
import HandS.TupAny
import HandS.Zip
import HandS.Style
import KE.GoesEnum
import HandS.DictComp
import HandS.Conv
import HandS.IsInst
import HandS.Text
import HandS.Strs
import PyProof.CollectIter
import PyProof.WalksMore
import PyProof.ReprLen
import HandS.TupLe
import HandS.TupSets
import HandS.NoneIn
import PyProof.Rows.IntBool
import HandS.FStr
import HandS.SlotsOwn
import HandS.Codes
import PySem.Challenge.RW_lothouse_k84_texts_written_and_read
set_option Elab.async false
set_option linter.all false
set_option maxRecDepth 100000
set_option maxHeartbeats 8000000
/-! A data layer over the hand layer: readings told by data, without addresses. -/
namespace DL
open PySem L2

/-! ### data at a value -/
def keyD : Key → PyData
  | .inl i => .int i
  | .inr x => .str x
mutual
/-- no list within -/
def noLst : PyData → Bool
  | .none | .bool _ | .int _ | .str _ => true
  | .list _ => false
  | .tuple xs => noLstA xs
  | .dict kvs => noLstK kvs
def noLstA : List PyData → Bool
  | [] => true
  | x :: xs => noLst x && noLstA xs
def noLstK : List (PyData × PyData) → Bool
  | [] => true
  | (_, v) :: r => noLst v && noLstK r
end
theorem noLstK_map : ∀ ds : List (Key × PyData), noLstK (ds.map fun q => (keyD q.1, q.2)) = noLstA (ds.map (·.2))
  | [] => by simp [noLstK, noLstA]
  | q :: ds => by simp [noLstK, noLstA, noLstK_map ds]
mutual
inductive Dt (K : PySem.W.Frag) (F : Hp) : V → PyData → Prop
  | non : Dt K F .non .none
  | bl (b : Bool) : Dt K F (.bl b) (.bool b)
  | int (i : Int) : Dt K F (.int i) (.int i)
  | str (x : Str) : Dt K F (.str x) (.str x)
  | lst {a : Addr} {xs : List V} {ds : List PyData} : F a = some (.lst xs) → DtAll K F xs ds → Dt K F (.ref a) (.list ds)
  | tup {a : Addr} {xs : List V} {ds : List PyData} : SqT K F a xs → DtAll K F xs ds → Dt K F (.ref a) (.tuple ds)
  | dct {a : Addr} {kvs : List (Key × V)} {ds : List (Key × PyData)} : F a = some (.dK kvs) → kvs.map (·.1) = ds.map (·.1) → DtAll K F (kvs.map (·.2)) (ds.map (·.2)) → Dt K F (.ref a) (.dict (ds.map fun q => (keyD q.1, q.2)))
inductive DtAll (K : PySem.W.Frag) (F : Hp) : List V → List PyData → Prop
  | nil : DtAll K F [] []
  | cons {v : V} {vs : List V} {d : PyData} {ds : List PyData} : Dt K F v d → DtAll K F vs ds → DtAll K F (v :: vs) (d :: ds)
end

section
variable {K : PySem.W.Frag} {F F' G H H' : Hp}
theorem same_new {q : Addr} {o : HO} (h : H q = none) : Same H (upd H q o) := fun b x e => by
  rw [upd_ne (ne_of_none e h)]
  exact e
theorem same_t {a : Addr} {xs : List V} (e : Same F F') (h : SqT K F a xs) : SqT K F' a xs := by
  rcases h with (h | ⟨o, h⟩) | h
  · exact .inl (.inl (e _ _ h))
  · exact .inl (.inr ⟨o, e _ _ h⟩)
  · exact .inr h
theorem Dt.mono (e : Same F F') {v : V} {d : PyData} (h : Dt K F v d) : Dt K F' v d :=
  Dt.rec (motive_1 := fun v d _ => Dt K F' v d) (motive_2 := fun vs ds _ => DtAll K F' vs ds) .non .bl .int .str (fun h _ ih => .lst (e _ _ h) ih) (fun h _ ih => .tup (same_t e h) ih) (fun h k _ ih => .dct (e _ _ h) k ih) .nil (fun _ _ i j => .cons i j) h
theorem DtAll.mono (e : Same F F') : ∀ {vs : List V} {ds : List PyData}, DtAll K F vs ds → DtAll K F' vs ds
  | _, _, .nil => .nil
  | _, _, .cons h t => .cons (h.mono e) (DtAll.mono e t)
theorem Dt.dp {v : V} {d : PyData} (h : Dt K F v d) : d.hasDict = false → Dp K F v d :=
  Dt.rec (motive_1 := fun v d _ => d.hasDict = false → Dp K F v d) (motive_2 := fun vs ds _ => PyData.hasDictAll ds = false → DpAll K F vs ds) (fun _ => .non) (fun b _ => .bl b) (fun i _ => .int i) (fun x _ => .str x)
    (fun h _ ih n => .lst (.inl (.inl h)) (ih (by simpa only [PyData.hasDict] using n))) (fun h _ ih n => .tup h (ih (by simpa only [PyData.hasDict] using n))) (fun _ _ _ _ n => by simp only [PyData.hasDict] at n; cases n) (fun _ => .nil)
    (fun _ _ i j n => by
      simp only [PyData.hasDictAll, Bool.or_eq_false_iff] at n
      exact .cons (i n.1) (j n.2)) h
theorem nd_sh {d : PyData} (h : SeqAt.shaped d = true) : d.hasDict = false := by
  simp only [SeqAt.shaped, Bool.and_eq_true] at h
  exact PyData.hasDict_of_canLay d h.1
theorem nd_shT {ds : List PyData} (h : SeqAt.shaped (.tuple ds) = true) : (PyData.list ds).hasDict = false := by
  have := nd_sh h
  simpa only [PyData.hasDict] using this
theorem DtAll.length : ∀ {vs : List V} {ds : List PyData}, DtAll K F vs ds → vs.length = ds.length
  | _, _, .nil => rfl
  | _, _, .cons _ t => congrArg (· + 1) t.length
theorem DtAll.get : ∀ {vs : List V} {ds : List PyData} {i : Nat} {v : V}, DtAll K F vs ds → vs[i]? = some v → ∃ d, ds[i]? = some d ∧ Dt K F v d
  | _, _, _, _, .nil, e => by simp at e
  | _, _, 0, _, .cons h _, e => by simp at e; subst e; exact ⟨_, rfl, h⟩
  | _, _, i + 1, v, .cons _ t, e => by
    obtain ⟨d, h1, h2⟩ := DtAll.get (i := i) (v := v) t (by simpa using e)
    exact ⟨d, by simpa using h1, h2⟩
theorem DtAll.getD : ∀ {vs : List V} {ds : List PyData} {i : Nat} {d : PyData}, DtAll K F vs ds → ds[i]? = some d → ∃ v, vs[i]? = some v ∧ Dt K F v d
  | _, _, _, _, .nil, e => by simp at e
  | _, _, 0, _, .cons h _, e => by simp at e; subst e; exact ⟨_, rfl, h⟩
  | _, _, i + 1, d, .cons _ t, e => by
    obtain ⟨v, h1, h2⟩ := DtAll.getD (i := i) (d := d) t (by simpa using e)
    exact ⟨v, by simpa using h1, h2⟩
theorem DtAll.append : ∀ {vs ws : List V} {ds es : List PyData}, DtAll K F vs ds → DtAll K F ws es → DtAll K F (vs ++ ws) (ds ++ es)
  | _, _, _, _, .nil, s => s
  | _, _, _, _, .cons h t, s => .cons h (DtAll.append t s)
theorem DtAll.take : ∀ (n : Nat) {vs : List V} {ds : List PyData}, DtAll K F vs ds → DtAll K F (vs.take n) (ds.take n)
  | 0, _, _, _ => .nil
  | _ + 1, _, _, .nil => .nil
  | n + 1, _, _, .cons h t => .cons h (DtAll.take n t)
theorem DtAll.drop : ∀ (n : Nat) {vs : List V} {ds : List PyData}, DtAll K F vs ds → DtAll K F (vs.drop n) (ds.drop n)
  | 0, _, _, h => h
  | _ + 1, _, _, .nil => .nil
  | n + 1, _, _, .cons _ t => DtAll.drop n t

end
section
variable {X : Cx} {pins : List (Addr × Obj)} {σ : St} {H : Hp} {s : Shared}
theorem pairs_reads {P : Program} {w : World} {h : Heap} : ∀ {es : List DictEntry} {vs : List (Key × Value)} {kvs : List (Key × V)} {ds : List (Key × PyData)}, PySem.Pairs (mixKind P w) es vs → KV kvs vs → kvs.map (·.1) = ds.map (·.1) →
    ReadsAll h (es.map (·.key)) (ds.map fun q => keyD q.1) [] ∧ Vals (kvs.map (·.2)) (es.map (·.val))
  | _, _, _, [], .nil, .nil, _ => ⟨.nil, .nil⟩
  | _, _, _, [], .cons _ _ _, .cons _ _, e => by simp at e
  | _, _, _, q :: ds, .nil, .nil, e => by simp at e
  | _, _, _, q :: ds, .cons (e := en) h1 h2 t, .cons r rs, e => by
    simp only [List.map_cons, List.cons.injEq] at e
    obtain ⟨e1, e2⟩ := e
    obtain ⟨i1, i2⟩ := pairs_reads t rs e2
    have hk : keyIs q.1 en.key = true := by
      rw [← e1, r.1]
      exact h1
    refine ⟨?_, ?_⟩
    · show ReadsAll h (en.key :: _) (keyD q.1 :: _) ([] ++ [])
      refine .cons ?_ i1
      rcases keyIs_shape hk with ⟨i, u, hq, hv⟩ | ⟨x, u, hq, hv⟩
      · rw [hq, hv]; exact Reads.int i u
      · rw [hq, hv]; exact Reads.str x u
    · refine .cons ?_ i2
      show RelV _ en.val
      rw [h2]
      exact r.2
theorem Dt.reads (I : Inv X pins σ H s) {v : V} {d : PyData} {u : Value} (h : Dt X.K H v d) (r : RelV v u) : ∃ as, Reads s.heap u d as ∧ (H sysModules = none ∨ noLst d = true → sysModules ∉ as) := by
  refine Dt.rec (motive_1 := fun v d _ => ∀ u, RelV v u → ∃ as, Reads s.heap u d as ∧ (H sysModules = none ∨ noLst d = true → sysModules ∉ as)) (motive_2 := fun vs ds _ => ∀ us, Vals vs us → ∃ as, ReadsAll s.heap us ds as ∧ (H sysModules = none ∨ noLstA ds = true → sysModules ∉ as))
    ?_ ?_ ?_ ?_ ?_ ?_ ?_ ?_ ?_ h u r
  · intro u r
    cases r
    exact ⟨_, Reads.none, by simp⟩
  · intro b u r
    cases r
    exact ⟨_, Reads.bool b, by simp⟩
  · intro i u r
    obtain ⟨t, rfl⟩ := r
    exact ⟨_, Reads.int i t, by simp⟩
  · intro x u r
    obtain ⟨t, rfl⟩ := r
    exact ⟨_, Reads.str x t, by simp⟩
  · intro a xs ds h1 _ ih u r
    cases r
    obtain ⟨its, rv, ⟨o, n, ho, hc, _, hd⟩, _⟩ := I.list (.inl (.inl h1))
    obtain ⟨as, hr, hn⟩ := ih _ rv
    refine ⟨_, Reads.list ho hc hd hr, fun hs hm => ?_⟩
    rcases hs with hs | hs
    · rcases List.mem_cons.mp hm with e | hm
      · rw [e, h1] at hs
        cases hs
      · exact hn (.inl hs) hm
    · simp [noLst] at hs
  · intro a xs ds h1 _ ih u r
    cases r
    obtain ⟨its, rv, ⟨o, ho, hc, n, hd⟩, _⟩ := I.tuple h1
    obtain ⟨as, hr, hn⟩ := ih _ rv
    exact ⟨_, Reads.tuple ho hc hd hr, fun hs => hn (hs.imp id fun z => by simpa only [noLst] using z)⟩
  · intro a kvs ds h1 hk _ ih u r
    cases r
    obtain ⟨_, hne, vs, kv, o, es, ep, ho, hc, hd, _, hp, _⟩ := (show ObjOk X.prog X.w H s.heap a (.dK kvs) from I.hok _ _ h1)
    obtain ⟨r1, r2⟩ := pairs_reads (h := s.heap) hp kv hk
    obtain ⟨bs, hr, hn⟩ := ih _ r2
    have hne' : a ≠ sysModules := beq_eq_false_iff_ne.mp hne
    refine ⟨_, Reads.dict ho hc.1 hd (as := []) ?_ (bs := bs) ?_, fun hs hm => ?_⟩
    · rw [List.map_map]; exact r1
    · rw [List.map_map]; exact hr
    · rcases List.mem_cons.mp hm with e | hm
      · exact hne' e.symm
      · exact hn (hs.imp id fun z => by simpa only [noLst, noLstK_map] using z) hm
  · intro us r
    cases r
    exact ⟨_, ReadsAll.nil, by simp⟩
  · intro v vs d ds _ _ i1 i2 us r
    cases r with
    | cons r1 r2 =>
      obtain ⟨as, q1, n1⟩ := i1 _ r1
      obtain ⟨bs, q2, n2⟩ := i2 _ r2
      refine ⟨_, ReadsAll.cons q1 q2, fun hs hm => (List.mem_append.mp hm).elim (n1 (hs.imp id fun z => ?_)) (n2 (hs.imp id fun z => ?_))⟩
      · simp only [noLstA, Bool.and_eq_true] at z
        exact z.1
      · simp only [noLstA, Bool.and_eq_true] at z
        exact z.2
end
section
variable {K : PySem.W.Frag} {F F' G H H' : Hp}
/-! ### what stands in a slot -/
inductive SV where
  | no
  | dat (d : PyData)
  | ptr (a : Addr)
  | scr (ns : List Int)
def SR (K : PySem.W.Frag) (F : Hp) (v : V) : SV → Prop
  | .no => False
  | .dat d => Dt K F v d
  | .ptr a => v = .ref a
  | .scr ns => ∃ a, v = .ref a ∧ SqL K F a (ns.map V.int)
def SO (K : PySem.W.Frag) (F : Hp) (o : Option V) (s : SV) : Prop := s = .no ∨ ∃ v, o = some v ∧ SR K F v s
abbrev SD (K : PySem.W.Frag) (F : Hp) : St → List SV → Prop := Paired (SO K F)
abbrev SRs (K : PySem.W.Frag) (F : Hp) : List V → List SV → Prop := Paired (SR K F)
theorem SR.mono (e : Same F F') {v : V} {s : SV} (h : SR K F v s) : SR K F' v s := by
  cases s with
  | no => exact h
  | dat d => exact Dt.mono e h
  | ptr a => exact h
  | scr ns =>
    obtain ⟨a, q, l⟩ := h
    exact ⟨a, q, e.seq l⟩
theorem SO.mono (e : Same F F') {o : Option V} {s : SV} (h : SO K F o s) : SO K F' o s := by
  rcases h with h | ⟨v, h, r⟩
  · exact .inl h
  · exact .inr ⟨v, h, r.mono e⟩
theorem SD.mono (e : Same F F') {σ : St} {S : List SV} (h : SD K F σ S) : SD K F' σ S := Paired.mono (fun _ _ q => SO.mono e q) h
theorem SRs.mono (e : Same F F') {vs : List V} {ss : List SV} (h : SRs K F vs ss) : SRs K F' vs ss := Paired.mono (fun _ _ q => SR.mono e q) h
theorem pget {α β : Type} {R : α → β → Prop} : ∀ {as : List α} {bs : List β} {i : Nat} {b : β}, Paired R as bs → bs[i]? = some b → ∃ a, as[i]? = some a ∧ R a b
  | _, _, _, _, .nil, e => by simp at e
  | _, _, 0, _, .cons h _, e => by simp at e; subst e; exact ⟨_, rfl, h⟩
  | _, _, i + 1, b, .cons _ t, e => by
    obtain ⟨a, h1, h2⟩ := pget (i := i) (b := b) t (by simpa using e)
    exact ⟨a, by simpa using h1, h2⟩
theorem pgetL {α β : Type} {R : α → β → Prop} : ∀ {as : List α} {bs : List β} {i : Nat} {a : α}, Paired R as bs → as[i]? = some a → ∃ b, bs[i]? = some b ∧ R a b
  | _, _, _, _, .nil, e => by simp at e
  | _, _, 0, _, .cons h _, e => by simp at e; subst e; exact ⟨_, rfl, h⟩
  | _, _, i + 1, a, .cons _ t, e => by
    obtain ⟨b, h1, h2⟩ := pgetL (i := i) (a := a) t (by simpa using e)
    exact ⟨b, by simpa using h1, h2⟩
theorem pset {α β : Type} {R : α → β → Prop} {a : α} {b : β} (r : R a b) : ∀ (i : Nat) {as : List α} {bs : List β}, Paired R as bs → Paired R (as.set i a) (bs.set i b)
  | _, _, _, .nil => .nil
  | 0, _, _, .cons _ t => .cons r t
  | i + 1, _, _, .cons q t => .cons q (pset r i t)
theorem papp {α β : Type} {R : α → β → Prop} : ∀ {as cs : List α} {bs ds : List β}, Paired R as bs → Paired R cs ds → Paired R (as ++ cs) (bs ++ ds)
  | _, _, _, _, .nil, s => s
  | _, _, _, _, .cons r t, s => .cons r (papp t s)
theorem SD.get {σ : St} {S : List SV} {i : Nat} {s : SV} (h : SD K F σ S) (e : S[i]? = some s) (n : s ≠ .no) : ∃ v, σ[i]? = some (some v) ∧ SR K F v s := by
  obtain ⟨o, h1, h2⟩ := pget h e
  rcases h2 with h2 | ⟨v, h2, r⟩
  · exact absurd h2 n
  · exact ⟨v, by rw [h1, h2], r⟩
theorem SD.put {σ : St} {S : List SV} {v : V} {s : SV} (h : SD K F σ S) (i : Nat) (r : SR K F v s) : SD K F (σ.set i (some v)) (S.set i s) := pset (.inr ⟨v, rfl, r⟩) i h
theorem SD.out {σ : St} {S : List SV} (h : SD K F σ S) (i : Nat) {o : Option V} : SD K F (σ.set i o) (S.set i .no) := pset (.inl rfl) i h
theorem SD.start (N : List Str) : ∀ {vs : List V} {ss : List SV}, SRs K F vs ss → SD K F (L2.start N vs) (ss ++ List.replicate (N.length - ss.length) .no) := by
  intro vs ss h
  have e : vs.length = ss.length := h.length
  show Paired (SO K F) (vs.map some ++ List.replicate (N.length - vs.length) none) _
  rw [e]
  refine papp ?_ ?_
  · induction h with
    | nil => exact .nil
    | cons r _ ih => exact .cons (.inr ⟨_, rfl, r⟩) (ih (by simpa using e))
  · generalize N.length - ss.length = n
    induction n with
    | zero => exact .nil
    | succ n ih => exact .cons (.inl rfl) ih

/-! ### what is owned -/
inductive Cell where
  | lst (xs : List SV)
  | dk (kvs : List (Key × SV))
  | dt (kvs : List (List Key × SV))
  | ins (C dx : Addr) (fs : List (Str × SV))
def KVR {κ : Type} (K : PySem.W.Frag) (F : Hp) : List (κ × V) → List (κ × SV) → Prop := Paired fun (a : κ × V) (b : κ × SV) => a.1 = b.1 ∧ SR K F a.2 b.2
def CellAt (K : PySem.W.Frag) (F H : Hp) (p : Addr) : Cell → Prop
  | .lst xs => ∃ vs, H p = some (.lst vs) ∧ SRs K F vs xs
  | .dk kvs => ∃ vs, H p = some (.dK vs) ∧ KVR K F vs kvs
  | .dt kvs => ∃ vs, H p = some (.dT vs) ∧ KVR K F vs kvs
  | .ins C dx fs => ∃ vs, H p = some (.ins C dx vs) ∧ KVR K F vs fs
theorem CellAt.mono {p : Addr} {c : Cell} (e : Same F F') (eh : H' p = H p) (h : CellAt K F H p c) : CellAt K F' H' p c := by
  cases c with
  | lst xs =>
    obtain ⟨vs, h1, h2⟩ := h
    exact ⟨vs, eh.trans h1, h2.mono e⟩
  | dk kvs =>
    obtain ⟨vs, h1, h2⟩ := h
    exact ⟨vs, eh.trans h1, Paired.mono (fun _ _ q => ⟨q.1, q.2.mono e⟩) h2⟩
  | dt kvs =>
    obtain ⟨vs, h1, h2⟩ := h
    exact ⟨vs, eh.trans h1, Paired.mono (fun _ _ q => ⟨q.1, q.2.mono e⟩) h2⟩
  | ins C dx fs =>
    obtain ⟨vs, h1, h2⟩ := h
    exact ⟨vs, eh.trans h1, Paired.mono (fun _ _ q => ⟨q.1, q.2.mono e⟩) h2⟩
theorem CellAt.here {p : Addr} {c : Cell} (h : CellAt K F H p c) : H p ≠ none := by
  cases c <;> obtain ⟨vs, h1, h2⟩ := h <;> rw [h1] <;> simp
/-- a block of objects of which more is known than what stands there now -/
structure Blk where
  cs : List Addr
  G : Hp → Hp → Prop
  ext : ∀ {F F' H H' : Hp}, Same F F' → (∀ c ∈ cs, H' c = H c) → G F H → G F' H'
  here : ∀ {F H : Hp} {c : Addr}, G F H → c ∈ cs → H c ≠ none
def Blk.nil : Blk := ⟨[], fun _ _ => True, fun _ _ h => h, fun _ h => by simp at h⟩
structure Amb where
  I : Blk
  cells : List (Addr × Cell)
abbrev Amb.add (A : Amb) (p : Addr) (c : Cell) : Amb := ⟨A.I, (p, c) :: A.cells⟩
structure At (K : PySem.W.Frag) (A : Amb) (F H : Hp) : Prop where
  same : Same F H
  blk : A.I.G F H
  bfree : ∀ c ∈ A.I.cs, F c = none
  cell : ∀ p c, (p, c) ∈ A.cells → F p = none ∧ p ∉ A.I.cs ∧ CellAt K F H p c
  nd : (A.cells.map (·.1)).Nodup
inductive Upd : List (Addr × Cell) → Addr → Cell → Cell → List (Addr × Cell) → Prop
  | head {p : Addr} {c c' : Cell} {l : List (Addr × Cell)} : Upd ((p, c) :: l) p c c' ((p, c') :: l)
  | tail {x : Addr × Cell} {p : Addr} {c c' : Cell} {l l' : List (Addr × Cell)} : Upd l p c c' l' → Upd (x :: l) p c c' (x :: l')
inductive Rem : List (Addr × Cell) → Addr → Cell → List (Addr × Cell) → Prop
  | head {p : Addr} {c : Cell} {l : List (Addr × Cell)} : Rem ((p, c) :: l) p c l
  | tail {x : Addr × Cell} {p : Addr} {c : Cell} {l l' : List (Addr × Cell)} : Rem l p c l' → Rem (x :: l) p c (x :: l')
theorem Upd.names : ∀ {l l' : List (Addr × Cell)} {p : Addr} {c c' : Cell}, Upd l p c c' l' → l'.map (·.1) = l.map (·.1)
  | _, _, _, _, _, .head => rfl
  | _, _, _, _, _, .tail t => by simp [t.names]
theorem Upd.mem : ∀ {l l' : List (Addr × Cell)} {p : Addr} {c c' : Cell}, Upd l p c c' l' → (p, c) ∈ l
  | _, _, _, _, _, .head => List.mem_cons_self
  | _, _, _, _, _, .tail t => List.mem_cons_of_mem _ t.mem
theorem Upd.new : ∀ {l l' : List (Addr × Cell)} {p : Addr} {c c' : Cell}, Upd l p c c' l' → (l.map (·.1)).Nodup → ∀ q d, (q, d) ∈ l' → (q = p ∧ d = c') ∨ (q ≠ p ∧ (q, d) ∈ l)
  | _, _, p, _, c', .head (l := l), nd, q, d, h => by
    rcases List.mem_cons.mp h with h1 | h1
    · cases h1
      exact .inl ⟨rfl, rfl⟩
    · refine .inr ⟨fun e => ?_, List.mem_cons_of_mem _ h1⟩
      have n1 := (List.nodup_cons.mp nd).1
      exact n1 (List.mem_map.mpr ⟨(q, d), h1, e⟩)
  | _, _, p, _, c', .tail (x := x) (l := l) t, nd, q, d, h => by
    rcases List.mem_cons.mp h with h | h
    · refine .inr ⟨fun e => ?_, by rw [h]; exact List.mem_cons_self⟩
      have n1 := (List.nodup_cons.mp nd).1
      refine n1 (List.mem_map.mpr ⟨(p, _), t.mem, ?_⟩)
      rw [← h]
      exact e.symm
    · rcases t.new (List.nodup_cons.mp nd).2 q d h with k | ⟨k1, k2⟩
      · exact .inl k
      · exact .inr ⟨k1, List.mem_cons_of_mem _ k2⟩
theorem Rem.mem : ∀ {l l' : List (Addr × Cell)} {p : Addr} {c : Cell}, Rem l p c l' → (p, c) ∈ l
  | _, _, _, _, .head => List.mem_cons_self
  | _, _, _, _, .tail t => List.mem_cons_of_mem _ t.mem
theorem Rem.sub : ∀ {l l' : List (Addr × Cell)} {p : Addr} {c : Cell}, Rem l p c l' → l'.Sublist l
  | _, _, _, _, .head => List.sublist_cons_self _ _
  | _, _, _, _, .tail t => List.Sublist.cons_cons _ t.sub
theorem Rem.ne : ∀ {l l' : List (Addr × Cell)} {p : Addr} {c : Cell}, Rem l p c l' → (l.map (·.1)).Nodup → ∀ q d, (q, d) ∈ l' → q ≠ p
  | _, _, p, _, .head (l := l), nd, q, d, h, e => by
    subst e
    exact (List.nodup_cons.mp nd).1 (List.mem_map.mpr ⟨(q, d), h, rfl⟩)
  | _, _, p, _, .tail (x := x) t, nd, q, d, h, e => by
    rcases List.mem_cons.mp h with h | h
    · subst e
      refine (List.nodup_cons.mp nd).1 (List.mem_map.mpr ⟨(q, _), t.mem, ?_⟩)
      rw [← h]
    · exact t.ne (List.nodup_cons.mp nd).2 q d h e
section
variable {A : Amb}
theorem At.alloc {q : Addr} {o : HO} (a : At K A F H) (h : H q = none) : At K A (upd F q o) (upd H q o) ∧ Same F (upd F q o) := by
  have fq : F q = none := a.same.free h
  have s : Same F (upd F q o) := same_new fq
  refine ⟨⟨fun b u e => ?_, ?_, fun c hc => ?_, fun p c hp => ?_, a.nd⟩, s⟩
  · unfold upd at e ⊢
    split at e
    · rename_i hb
      rw [if_pos hb]
      exact e
    · rename_i hb
      rw [if_neg hb]
      exact a.same b u e
  · refine A.I.ext s (fun c hc => upd_ne fun e => ?_) a.blk
    exact A.I.here a.blk hc (by rw [e]; exact h)
  · rw [upd_ne fun e => A.I.here a.blk hc (by rw [e]; exact h)]
    exact a.bfree c hc
  · obtain ⟨h1, h2, h3⟩ := a.cell p c hp
    have ne : p ≠ q := fun e => h3.here (by rw [e]; exact h)
    exact ⟨by rw [upd_ne ne]; exact h1, h2, h3.mono s (upd_ne ne)⟩
theorem At.new {q : Addr} {o : HO} {c : Cell} (a : At K A F H) (h : H q = none) (hc : CellAt K F (upd H q o) q c) : At K (A.add q c) F (upd H q o) := by
  have fq : F q = none := a.same.free h
  refine ⟨a.same.trans (same_new h), ?_, a.bfree, fun p d hp => ?_, ?_⟩
  · exact A.I.ext (Same.refl F) (fun c hc => upd_ne fun e => A.I.here a.blk hc (by rw [e]; exact h)) a.blk
  · rcases List.mem_cons.mp hp with hp | hp
    · cases hp
      exact ⟨fq, fun hq => A.I.here a.blk hq h, hc⟩
    · obtain ⟨h1, h2, h3⟩ := a.cell p d hp
      have ne : p ≠ q := fun e => h3.here (by rw [e]; exact h)
      exact ⟨h1, h2, h3.mono (Same.refl F) (upd_ne ne)⟩
  · refine List.nodup_cons.mpr ⟨fun hq => ?_, a.nd⟩
    obtain ⟨⟨p, d⟩, hp, e⟩ := List.mem_map.mp hq
    obtain ⟨h1, h2, h3⟩ := a.cell p d hp
    have e' : p = q := e
    exact h3.here (by rw [e']; exact h)
theorem At.put {p : Addr} {c c' : Cell} {o : HO} {l' : List (Addr × Cell)} (a : At K A F H) (u : Upd A.cells p c c' l') (hc : CellAt K F (upd H p o) p c') : At K ⟨A.I, l'⟩ F (upd H p o) := by
  obtain ⟨f1, f2, f3⟩ := a.cell p c u.mem
  refine ⟨fun b x e => ?_, ?_, a.bfree, fun q d hq => ?_, by rw [u.names]; exact a.nd⟩
  · rw [upd_ne (ne_of_none e f1)]
    exact a.same b x e
  · exact A.I.ext (Same.refl F) (fun c hc => upd_ne fun e => f2 (by rw [← e]; exact hc)) a.blk
  · rcases u.new a.nd q d hq with ⟨e1, e2⟩ | ⟨e1, e2⟩
    · subst e1; subst e2
      exact ⟨f1, f2, hc⟩
    · obtain ⟨h1, h2, h3⟩ := a.cell q d e2
      exact ⟨h1, h2, h3.mono (Same.refl F) (upd_ne e1)⟩
theorem At.drop {p : Addr} {c : Cell} {l' : List (Addr × Cell)} (a : At K A F H) (r : Rem A.cells p c l') : At K ⟨A.I, l'⟩ F H :=
  ⟨a.same, a.blk, a.bfree, fun q d hq => a.cell q d (r.sub.subset hq), (r.sub.map _).nodup a.nd⟩
theorem srs_dats : ∀ {vs : List V} {ds : List PyData}, SRs K F vs (ds.map .dat) → DtAll K F vs ds
  | _, [], h => by
    have h' : SRs K F _ [] := h
    cases h'
    exact .nil
  | _, d :: ds, h => by
    have h' : SRs K F _ (.dat d :: ds.map .dat) := h
    cases h' with
    | cons r t => exact .cons r (srs_dats t)
theorem dats_srs : ∀ {vs : List V} {ds : List PyData}, DtAll K F vs ds → SRs K F vs (ds.map .dat)
  | _, _, .nil => .nil
  | _, _, .cons h t => .cons h (dats_srs t)
/-- an owned list becomes data -/
theorem At.frz {p : Addr} {ds : List PyData} {l' : List (Addr × Cell)} (a : At K A F H) (r : Rem A.cells p (.lst (ds.map .dat)) l') : ∃ F', Same F F' ∧ At K ⟨A.I, l'⟩ F' H ∧ Dt K F' (.ref p) (.list ds) := by
  obtain ⟨f1, f2, vs, f3, f4⟩ := a.cell p _ r.mem
  have s : Same F (upd F p (.lst vs)) := same_new f1
  refine ⟨upd F p (.lst vs), s, ⟨fun b u e => ?_, A.I.ext s (fun _ _ => rfl) a.blk, fun c hc => ?_, fun q d hq => ?_, (r.sub.map _).nodup a.nd⟩, .lst upd_same ((srs_dats f4).mono s)⟩
  · unfold upd at e
    split at e
    · rename_i hb
      rw [hb, f3]
      exact e
    · exact a.same b u e
  · rw [upd_ne fun e => f2 (by rw [← e]; exact hc)]
    exact a.bfree c hc
  · obtain ⟨h1, h2, h3⟩ := a.cell q d (r.sub.subset hq)
    have ne : q ≠ p := r.ne a.nd q d hq
    exact ⟨by rw [upd_ne ne]; exact h1, h2, h3.mono s rfl⟩
end
end
end DL

/-! The data layer's judgements: what a reading wants, told by data; a frame of owned cells goes along unseen. -/
namespace DL
open PySem L2

abbrev KA := Amb → SV → Prop
abbrev KS := Amb → List SV → Prop
abbrev AtR (K : PySem.W.Frag) (A : Amb) (R : List (Addr × Cell)) (F H : Hp) : Prop := At K ⟨A.I, A.cells ++ R⟩ F H
def OutV (K : PySem.W.Frag) (R : List (Addr × Cell)) (F : Hp) (Q : VK) (k : KA) : Prop := ∀ A s v F' H', k A s → Same F F' → AtR K A R F' H' → SR K F' v s → Q v H'
def OutB (K : PySem.W.Frag) (R : List (Addr × Cell)) (F : Hp) (Q : Bool → Hp → Prop) (k : Amb → Bool → Prop) : Prop := ∀ A b F' H', k A b → Same F F' → AtR K A R F' H' → Q b H'
def OutL (K : PySem.W.Frag) (R : List (Addr × Cell)) (F : Hp) (Q : List V → Hp → Prop) (k : KS) : Prop := ∀ A ss vs F' H', k A ss → Same F F' → AtR K A R F' H' → SRs K F' vs ss → Q vs H'
def OutS (K : PySem.W.Frag) (R : List (Addr × Cell)) (F : Hp) (Q : St → Hp → Prop) (k : KS) : Prop := ∀ A S F' σ' H', k A S → Same F F' → AtR K A R F' H' → SD K F' σ' S → Q σ' H'
section
variable {K : PySem.W.Frag} {R : List (Addr × Cell)} {F F' : Hp}
theorem OutV.mono {Q : VK} {k : KA} (e : Same F F') (q : OutV K R F Q k) : OutV K R F' Q k := fun A s v F2 H2 hk e2 a r => q A s v F2 H2 hk (e.trans e2) a r
theorem OutB.mono {Q : Bool → Hp → Prop} {k : Amb → Bool → Prop} (e : Same F F') (q : OutB K R F Q k) : OutB K R F' Q k := fun A b F2 H2 hk e2 a => q A b F2 H2 hk (e.trans e2) a
theorem OutL.mono {Q : List V → Hp → Prop} {k : KS} (e : Same F F') (q : OutL K R F Q k) : OutL K R F' Q k := fun A s v F2 H2 hk e2 a r => q A s v F2 H2 hk (e.trans e2) a r
theorem OutS.mono {Q : St → Hp → Prop} {k : KS} (e : Same F F') (q : OutS K R F Q k) : OutS K R F' Q k := fun A s v F2 H2 hk e2 a r => q A s v F2 H2 hk (e.trans e2) a r
end
def Wp (K : PySem.W.Frag) (A : Amb) (te : TE) (S : List SV) (k : KA) : Prop := ∀ R F σ H Q, AtR K A R F H → SD K F σ S → OutV K R F Q k → te σ H Q
def WpT (K : PySem.W.Frag) (A : Amb) (tt : TT) (S : List SV) (k : Amb → Bool → Prop) : Prop := ∀ R F σ H Q, AtR K A R F H → SD K F σ S → OutB K R F Q k → tt σ H Q
def WpA (K : PySem.W.Frag) (A : Amb) (ta : TA) (S : List SV) (k : KS) : Prop := ∀ R F σ H Q, AtR K A R F H → SD K F σ S → OutL K R F Q k → ta σ H Q
def RW (K : PySem.W.Frag) (r : R2) (s1 s2 : SV) (A : Amb) (k : KA) : Prop := ∀ R F H v w Q, AtR K A R F H → SR K F v s1 → SR K F w s2 → OutV K R F Q k → r v w H Q
def UW (K : PySem.W.Frag) (r : V → Hp → VK → Prop) (s : SV) (A : Amb) (k : KA) : Prop := ∀ R F H v Q, AtR K A R F H → SR K F v s → OutV K R F Q k → r v H Q
def CW (K : PySem.W.Frag) (r : List V → Hp → VK → Prop) (ss : List SV) (A : Amb) (k : KA) : Prop := ∀ R F H vs Q, AtR K A R F H → SRs K F vs ss → OutV K R F Q k → r vs H Q
def GW (K : PySem.W.Frag) (g : TG) (s : SV) (S : List SV) (A : Amb) (k : KS) : Prop := ∀ R F σ H v Q, AtR K A R F H → SD K F σ S → SR K F v s → OutS K R F Q k → g v σ H Q
def GWs (K : PySem.W.Frag) (g : TGs) (ss : List SV) (S : List SV) (A : Amb) (k : KS) : Prop := ∀ R F σ H vs Q, AtR K A R F H → SD K F σ S → SRs K F vs ss → OutS K R F Q k → g vs σ H Q
structure DE where
  nx : KS
  bk : KS
  ct : KS
  rt : KA
@[reducible] def DE.seq (E : DE) (f : KS) : DE := ⟨f, E.bk, E.ct, E.rt⟩
@[reducible] def DE.loop (E : DE) (f : KS) : DE := ⟨f, E.nx, f, E.rt⟩
structure OutE (K : PySem.W.Frag) (R : List (Addr × Cell)) (F : Hp) (D : Ends) (E : DE) : Prop where
  nx : OutS K R F D.nx E.nx
  bk : OutS K R F D.bk E.bk
  ct : OutS K R F D.ct E.ct
  rt : OutV K R F D.rt E.rt
theorem OutE.mono {K : PySem.W.Frag} {R : List (Addr × Cell)} {F F' : Hp} {D : Ends} {E : DE} (e : Same F F') (o : OutE K R F D E) : OutE K R F' D E := ⟨o.nx.mono e, o.bk.mono e, o.ct.mono e, o.rt.mono e⟩
def Go (K : PySem.W.Frag) (A : Amb) (ts : TS) (S : List SV) (E : DE) : Prop := ∀ R F σ H D, AtR K A R F H → SD K F σ S → OutE K R F D E → ts D σ H

def datOf : SV → Option PyData
  | .dat d => some d
  | _ => none
def datsOf : List SV → Option (List PyData)
  | [] => some []
  | .dat d :: r => match datsOf r with
    | some ds => some (d :: ds)
    | none => none
  | _ :: _ => none
theorem datsOf_eq : ∀ {ss : List SV} {ds : List PyData}, datsOf ss = some ds → ss = ds.map .dat
  | [], ds, h => by
    have h' : some [] = some ds := h
    cases h'
    rfl
  | .dat d :: r, ds, h => by
    unfold datsOf at h
    cases e : datsOf r with
    | none => rw [e] at h; cases h
    | some es =>
      rw [e] at h
      cases h
      rw [datsOf_eq e]
      rfl
  | .no :: _, _, h => by cases h
  | .ptr _ :: _, _, h => by cases h
  | .scr _ :: _, _, h => by cases h

section
variable {K : PySem.W.Frag} {A A' : Amb} {S S' : List SV} {k k' : KA} {ta tb te : TE} {t u : TT} {r : R2} {s s1 s2 : SV}
theorem SR.noN {F : Hp} {v : V} (h : SR K F v s) : s ≠ .no := fun e => by subst e; exact h
theorem Wp.imp (h : Wp K A te S k) (i : ∀ A s, k A s → k' A s) : Wp K A te S k' := fun R F σ H Q a sd q => h R F σ H Q a sd fun A1 s v F1 H1 hk => q A1 s v F1 H1 (i _ _ hk)
theorem WpT.imp {k k' : Amb → Bool → Prop} (h : WpT K A t S k) (i : ∀ A b, k A b → k' A b) : WpT K A t S k' := fun R F σ H Q a sd q => h R F σ H Q a sd fun A1 b F1 H1 hk => q A1 b F1 H1 (i _ _ hk)

/-! ### expressions -/
theorem wp_var {i : Nat} (e : S[i]? = some s) (n : s ≠ .no) (h : k A s) : Wp K A (tVar i) S k := fun R F σ H Q a sd q => by
  obtain ⟨v, h1, h2⟩ := sd.get e n
  exact ⟨v, h1, q A s v F H h (Same.refl F) a h2⟩
theorem wp_vd {i : Nat} {d : PyData} (e : S[i]? = some (.dat d)) (h : k A (.dat d)) : Wp K A (tVar i) S k := wp_var e (by intro z; cases z) h
theorem wp_vp {i : Nat} {p : Addr} (e : S[i]? = some (.ptr p)) (h : k A (.ptr p)) : Wp K A (tVar i) S k := wp_var e (by intro z; cases z) h
theorem wp_vs {i : Nat} {ns : List Int} (e : S[i]? = some (.scr ns)) (h : k A (.scr ns)) : Wp K A (tVar i) S k := wp_var e (by intro z; cases z) h
theorem wp_c {v : V} {d : PyData} (hd : Dt K (fun _ => none) v d) (h : k A (.dat d)) : Wp K A (tC v) S k := fun R F σ H Q a sd q =>
  q A _ v F H h (Same.refl F) a (hd.mono fun _ _ z => by cases z)
theorem wp_ci {i : Int} (h : k A (.dat (.int i))) : Wp K A (tC (.int i)) S k := wp_c (.int i) h
theorem wp_cb {b : Bool} (h : k A (.dat (.bool b))) : Wp K A (tC (.bl b)) S k := wp_c (.bl b) h
theorem wp_cn (h : k A (.dat .none)) : Wp K A (tC .non) S k := wp_c .non h
theorem wp_cs {x : Str} (h : k A (.dat (.str x))) : Wp K A (tC (.str x)) S k := wp_c (.str x) h
theorem wp_op (h : Wp K A ta S fun A1 s1 => Wp K A1 tb S fun A2 s2 => RW K r s1 s2 A2 k) : Wp K A (tOp r ta tb) S k := fun R F σ H Q a sd q =>
  h R F σ H _ a sd fun A1 s1 v F1 H1 h1 e1 a1 r1 => h1 R F1 σ H1 _ a1 (sd.mono e1) fun A2 s2 w F2 H2 h2 e2 a2 r2 => h2 R F2 H2 v w Q a2 (r1.mono e2) r2 (q.mono (e1.trans e2))
theorem wp_un {r : V → Hp → VK → Prop} (h : Wp K A ta S fun A1 s1 => UW K r s1 A1 k) : Wp K A (tUn r ta) S k := fun R F σ H Q a sd q =>
  h R F σ H _ a sd fun A1 s1 v F1 H1 h1 e1 a1 r1 => h1 R F1 H1 v Q a1 r1 (q.mono e1)
theorem wpa_nil {k : KS} (h : k A []) : WpA K A tNil S k := fun R F σ H Q a sd q => q A [] [] F H h (Same.refl F) a .nil
theorem wpa_cons {tr : TA} {k : KS} (h : Wp K A te S fun A1 s => WpA K A1 tr S fun A2 ss => k A2 (s :: ss)) : WpA K A (tCons te tr) S k := fun R F σ H Q a sd q =>
  h R F σ H _ a sd fun A1 s1 v F1 H1 h1 e1 a1 r1 => h1 R F1 σ H1 _ a1 (sd.mono e1) fun A2 ss vs F2 H2 h2 e2 a2 r2 => q A2 _ _ F2 H2 h2 (e1.trans e2) a2 (.cons (r1.mono e2) r2)
theorem wp_cb_call {r : List V → Hp → VK → Prop} {ta : TA} (h : WpA K A ta S fun A1 ss => CW K r ss A1 k) : Wp K A (tCB r ta) S k := fun R F σ H Q a sd q =>
  h R F σ H _ a sd fun A1 ss vs F1 H1 h1 e1 a1 r1 => h1 R F1 H1 vs Q a1 r1 (q.mono e1)
theorem AtR.alloc {R : List (Addr × Cell)} {F H : Hp} {q : Addr} {o : HO} (a : AtR K A R F H) (h : H q = none) : AtR K A R (upd F q o) (upd H q o) ∧ Same F (upd F q o) := At.alloc a h
theorem AtR.new {R : List (Addr × Cell)} {F H : Hp} {q : Addr} {o : HO} {c : Cell} (a : AtR K A R F H) (h : H q = none) (hc : CellAt K F (upd H q o) q c) : AtR K (A.add q c) R F (upd H q o) := At.new (A := ⟨A.I, A.cells ++ R⟩) a h hc
theorem wp_tup {ta : TA} (h : WpA K A ta S fun A1 ss => ∃ ds, datsOf ss = some ds ∧ ds.length ≤ sizeLine ∧ k A1 (.dat (.tuple ds))) : Wp K A (tTup ta) S k := fun R F σ H Q a sd q =>
  h R F σ H _ a sd fun A1 ss vs F1 H1 ⟨ds, h1, h2, h3⟩ e1 a1 r1 => by
    rw [datsOf_eq h1] at r1
    have rd := srs_dats r1
    refine ⟨by rw [rd.length]; exact h2, fun p hp => ?_⟩
    obtain ⟨a2, e2⟩ := a1.alloc (o := .tup vs) hp
    exact q A1 _ _ _ _ h3 (e1.trans e2) a2 (.tup (SqT.of upd_same) (rd.mono e2))
/-- a new list, as data -/
theorem wp_lst {ta : TA} (h : WpA K A ta S fun A1 ss => ∃ ds, datsOf ss = some ds ∧ ds.length ≤ sizeLine ∧ k A1 (.dat (.list ds))) : Wp K A (tLst ta) S k := fun R F σ H Q a sd q =>
  h R F σ H _ a sd fun A1 ss vs F1 H1 ⟨ds, h1, h2, h3⟩ e1 a1 r1 => by
    rw [datsOf_eq h1] at r1
    have rd := srs_dats r1
    refine ⟨by rw [rd.length]; exact h2, fun p hp => ?_⟩
    obtain ⟨a2, e2⟩ := a1.alloc (o := .lst vs) hp
    exact q A1 _ _ _ _ h3 (e1.trans e2) a2 (.lst upd_same (rd.mono e2))
/-- a new list, one's own -/
theorem wp_lstO {ta : TA} (h : WpA K A ta S fun A1 ss => ss.length ≤ sizeLine ∧ ∀ p, k (A1.add p (.lst ss)) (.ptr p)) : Wp K A (tLst ta) S k := fun R F σ H Q a sd q =>
  h R F σ H _ a sd fun A1 ss vs F1 H1 ⟨h1, h2⟩ e1 a1 r1 => by
    refine ⟨by rw [r1.length]; exact h1, fun p hp => ?_⟩
    exact q _ _ _ _ _ (h2 p) e1 (a1.new hp ⟨vs, upd_same, r1⟩) rfl
theorem Rem.app {l l' R : List (Addr × Cell)} {p : Addr} {c : Cell} (h : Rem l p c l') : Rem (l ++ R) p c (l' ++ R) := by
  induction h with
  | head => exact .head
  | tail _ ih => exact .tail ih
/-- an owned list that a reading leaves becomes data -/
theorem wp_frz (h : Wp K A te S fun A1 s => ∃ p ds l', s = .ptr p ∧ Rem A1.cells p (.lst (ds.map .dat)) l' ∧ k ⟨A1.I, l'⟩ (.dat (.list ds))) : Wp K A te S k := fun R F σ H Q a sd q =>
  h R F σ H _ a sd fun A1 s v F1 H1 ⟨p, ds, l', hs, hr, hk⟩ e1 a1 r1 => by
    subst hs
    obtain rfl : v = .ref p := r1
    obtain ⟨F2, e2, a2, d2⟩ := At.frz (A := ⟨A1.I, A1.cells ++ R⟩) a1 hr.app
    exact q _ _ _ _ _ hk (e1.trans e2) a2 d2
theorem Upd.app {l l' R : List (Addr × Cell)} {p : Addr} {c c' : Cell} (h : Upd l p c c' l') : Upd (l ++ R) p c c' (l' ++ R) := by
  induction h with
  | head => exact .head
  | tail _ ih => exact .tail ih
theorem AtR.cell {R : List (Addr × Cell)} {F H : Hp} {p : Addr} {c : Cell} (a : AtR K A R F H) (h : (p, c) ∈ A.cells) : CellAt K F H p c := (At.cell a p c (List.mem_append_left _ h)).2.2
theorem AtR.put {R : List (Addr × Cell)} {F H : Hp} {p : Addr} {c c' : Cell} {o : HO} {l' : List (Addr × Cell)} (a : AtR K A R F H) (u : Upd A.cells p c c' l') (hc : CellAt K F (upd H p o) p c') : AtR K ⟨A.I, l'⟩ R F (upd H p o) := At.put (A := ⟨A.I, A.cells ++ R⟩) a u.app hc
theorem AtR.drop {R : List (Addr × Cell)} {F H : Hp} {p : Addr} {c : Cell} {l' : List (Addr × Cell)} (a : AtR K A R F H) (u : Rem A.cells p c l') : AtR K ⟨A.I, l'⟩ R F H := At.drop (A := ⟨A.I, A.cells ++ R⟩) a u.app
/-- an owned object that is left behind -/
theorem wp_drop (h : Wp K A te S fun A1 s => ∃ p c l', Rem A1.cells p c l' ∧ k ⟨A1.I, l'⟩ s) : Wp K A te S k := fun R F σ H Q a sd q =>
  h R F σ H _ a sd fun A1 s v F1 H1 ⟨p, c, l', hr, hk⟩ e1 a1 r1 => q _ _ _ _ _ hk e1 (a1.drop hr) r1

theorem wp_if (h : WpT K A t S fun A1 b => (b = true → Wp K A1 ta S k) ∧ (b = false → Wp K A1 tb S k)) : Wp K A (tIf t ta tb) S k := fun R F σ H Q a sd q =>
  h R F σ H _ a sd fun A1 b F1 H1 h1 e1 a1 => by
    cases b with
    | true => exact h1.1 rfl R F1 σ H1 Q a1 (sd.mono e1) (q.mono e1)
    | false => exact h1.2 rfl R F1 σ H1 Q a1 (sd.mono e1) (q.mono e1)
theorem sr_bl {F : Hp} {v : V} {b : Bool} (h : SR K F v (.dat (.bool b))) : v = .bl b := by
  have h' : Dt K F v (.bool b) := h
  cases h'
  rfl
theorem sr_int {F : Hp} {v : V} {b : Int} (h : SR K F v (.dat (.int b))) : v = .int b := by
  have h' : Dt K F v (.int b) := h
  cases h'
  rfl
theorem sr_str {F : Hp} {v : V} {b : Str} (h : SR K F v (.dat (.str b))) : v = .str b := by
  have h' : Dt K F v (.str b) := h
  cases h'
  rfl
theorem sr_non {F : Hp} {v : V} (h : SR K F v (.dat .none)) : v = .non := by
  have h' : Dt K F v .none := h
  cases h'
  rfl
theorem sr_lst {F : Hp} {v : V} {ds : List PyData} (h : SR K F v (.dat (.list ds))) : ∃ a xs, v = .ref a ∧ F a = some (.lst xs) ∧ DtAll K F xs ds := by
  have h' : Dt K F v (.list ds) := h
  cases h' with
  | lst h1 h2 => exact ⟨_, _, rfl, h1, h2⟩
theorem sr_tup {F : Hp} {v : V} {ds : List PyData} (h : SR K F v (.dat (.tuple ds))) : ∃ a xs, v = .ref a ∧ SqT K F a xs ∧ DtAll K F xs ds := by
  have h' : Dt K F v (.tuple ds) := h
  cases h' with
  | tup h1 h2 => exact ⟨_, _, rfl, h1, h2⟩

/-! ### tests -/
theorem wpt_test {k : Amb → Bool → Prop} (h : Wp K A te S fun A1 s => ∃ b, s = .dat (.bool b) ∧ k A1 b) : WpT K A (tTest te) S k := fun R F σ H Q a sd q =>
  h R F σ H _ a sd fun A1 s v F1 H1 ⟨b, hb, hk⟩ e1 a1 r1 => by
    subst hb
    exact ⟨b, sr_bl r1, q A1 b F1 H1 hk e1 a1⟩
theorem wpt_b {k : Amb → Bool → Prop} (h : Wp K A te S fun A1 s => ∃ b, s = .dat (.bool b) ∧ k A1 b) : WpT K A (tB te) S k := fun R F σ H Q a sd q =>
  h R F σ H _ a sd fun A1 s v F1 H1 ⟨b, hb, hk⟩ e1 a1 r1 => by
    subst hb
    exact ⟨b, sr_bl r1, q A1 b F1 H1 hk e1 a1⟩
theorem wpt_and {k : Amb → Bool → Prop} (h : WpT K A t S fun A1 b => (b = true → WpT K A1 u S k) ∧ (b = false → k A1 false)) : WpT K A (tAnd t u) S k := fun R F σ H Q a sd q =>
  h R F σ H _ a sd fun A1 b F1 H1 h1 e1 a1 => by
    cases b with
    | true => exact h1.1 rfl R F1 σ H1 Q a1 (sd.mono e1) (q.mono e1)
    | false => exact q A1 false F1 H1 (h1.2 rfl) e1 a1
theorem wpt_or {k : Amb → Bool → Prop} (h : WpT K A t S fun A1 b => (b = true → k A1 true) ∧ (b = false → WpT K A1 u S k)) : WpT K A (tOr t u) S k := fun R F σ H Q a sd q =>
  h R F σ H _ a sd fun A1 b F1 H1 h1 e1 a1 => by
    cases b with
    | true => exact q A1 true F1 H1 (h1.1 rfl) e1 a1
    | false => exact h1.2 rfl R F1 σ H1 Q a1 (sd.mono e1) (q.mono e1)
theorem wpt_not {k : Amb → Bool → Prop} (h : WpT K A t S fun A1 b => k A1 (!b)) : WpT K A (tNot t) S k := fun R F σ H Q a sd q =>
  h R F σ H _ a sd fun A1 b F1 H1 h1 e1 a1 => q A1 (!b) F1 H1 h1 e1 a1
theorem wpt_yes {k : Amb → Bool → Prop} (h : k A true) : WpT K A tYes S k := fun R F σ H Q a sd q => q A true F H h (Same.refl F) a
theorem wp_andV (h : Wp K A ta S fun A1 s => ∃ b, s = .dat (.bool b) ∧ (b = true → Wp K A1 tb S k) ∧ (b = false → k A1 (.dat (.bool false)))) : Wp K A (tAndV ta tb) S k := fun R F σ H Q a sd q =>
  h R F σ H _ a sd fun A1 s v F1 H1 ⟨b, hb, h1⟩ e1 a1 r1 => by
    subst hb
    refine ⟨b, sr_bl r1, ?_⟩
    cases b with
    | true => exact h1.1 rfl R F1 σ H1 Q a1 (sd.mono e1) (q.mono e1)
    | false => exact q A1 _ _ F1 H1 (h1.2 rfl) e1 a1 (.bl false)
theorem wp_orV (h : Wp K A ta S fun A1 s => ∃ b, s = .dat (.bool b) ∧ (b = true → k A1 (.dat (.bool true))) ∧ (b = false → Wp K A1 tb S k)) : Wp K A (tOrV ta tb) S k := fun R F σ H Q a sd q =>
  h R F σ H _ a sd fun A1 s v F1 H1 ⟨b, hb, h1⟩ e1 a1 r1 => by
    subst hb
    refine ⟨b, sr_bl r1, ?_⟩
    cases b with
    | true => exact q A1 _ _ F1 H1 (h1.1 rfl) e1 a1 (.bl true)
    | false => exact h1.2 rfl R F1 σ H1 Q a1 (sd.mono e1) (q.mono e1)
theorem wp_notV (h : Wp K A ta S fun A1 s => ∃ b, s = .dat (.bool b) ∧ k A1 (.dat (.bool (!b)))) : Wp K A (tNotV ta) S k := fun R F σ H Q a sd q =>
  h R F σ H _ a sd fun A1 s v F1 H1 ⟨b, hb, h1⟩ e1 a1 r1 => by
    subst hb
    exact ⟨b, sr_bl r1, q A1 _ _ F1 H1 h1 e1 a1 (.bl _)⟩

/-! ### targets -/
theorem gw_name {i : Nat} {k : KS} (h : k A (S.set i s)) : GW K (gName i) s S A k := fun R F σ H v Q a sd r q => q A _ F _ H h (Same.refl F) a (sd.put i r)
theorem gws_nil {k : KS} (h : k A S) : GWs K gNil [] S A k := fun R F σ H vs Q a sd r q => by
  cases r
  exact ⟨rfl, q A S F σ H h (Same.refl F) a sd⟩
theorem gws_cons {g : TG} {u : TGs} {ss : List SV} {k : KS} (h : GW K g s S A fun A1 S1 => GWs K u ss S1 A1 k) : GWs K (gCons g u) (s :: ss) S A k := fun R F σ H vs Q a sd r q => by
  cases r with
  | cons r1 r2 =>
    exact ⟨_, _, rfl, h R F σ H _ _ a sd r1 fun A1 S1 F1 σ1 H1 h1 e1 a1 sd1 => h1 R F1 σ1 H1 _ Q a1 sd1 (SRs.mono e1 r2) (q.mono e1)⟩
theorem gw_tup {n : Nat} {u : TGs} {ds : List PyData} {k : KS} (hn : ds.length = n) (h : GWs K u (ds.map .dat) S A k) : GW K (gTup K n u) (.dat (.tuple ds)) S A k := fun R F σ H v Q a sd r q => by
  obtain ⟨p, xs, rfl, h1, h2⟩ := sr_tup r
  exact ⟨p, xs, rfl, same_t a.same h1, by rw [h2.length]; exact hn, h R F σ H xs Q a sd (dats_srs h2) q⟩

/-! ### statements -/
variable {E : DE} {tu tw : TS}
theorem go_seq (h : Go K A tu S (E.seq fun A1 S1 => Go K A1 tw S1 E)) : Go K A (tSeq tu tw) S E := fun R F σ H D a sd o =>
  h R F σ H _ a sd ⟨fun A1 S1 F1 σ1 H1 h1 e1 a1 sd1 => h1 R F1 σ1 H1 D a1 sd1 (o.mono e1), o.bk, o.ct, o.rt⟩
theorem go_next (h : E.nx A S) : Go K A tNext S E := fun R F σ H D a sd o => o.nx A S F σ H h (Same.refl F) a sd
theorem go_break (h : E.bk A S) : Go K A tBreak S E := fun R F σ H D a sd o => o.bk A S F σ H h (Same.refl F) a sd
theorem go_cont (h : E.ct A S) : Go K A tCont S E := fun R F σ H D a sd o => o.ct A S F σ H h (Same.refl F) a sd
theorem go_drop (h : Wp K A te S fun A1 _ => E.nx A1 S) : Go K A (tDrop te) S E := fun R F σ H D a sd o =>
  h R F σ H _ a sd fun A1 s v F1 H1 h1 e1 a1 _ => o.nx A1 S F1 σ H1 h1 e1 a1 (sd.mono e1)
theorem go_ret (h : Wp K A te S E.rt) : Go K A (tRet te) S E := fun R F σ H D a sd o => h R F σ H _ a sd o.rt
theorem go_retN (h : E.rt A (.dat .none)) : Go K A tRetN S E := fun R F σ H D a sd o => o.rt A _ _ F H h (Same.refl F) a .non
theorem go_if (h : WpT K A t S fun A1 b => (b = true → Go K A1 tu S E) ∧ (b = false → Go K A1 tw S E)) : Go K A (tIfS t tu tw) S E := fun R F σ H D a sd o =>
  h R F σ H _ a sd fun A1 b F1 H1 h1 e1 a1 => by
    cases b with
    | true => exact h1.1 rfl R F1 σ H1 D a1 (sd.mono e1) (o.mono e1)
    | false => exact h1.2 rfl R F1 σ H1 D a1 (sd.mono e1) (o.mono e1)
theorem go_asg {g : TG} (h : Wp K A te S fun A1 s => GW K g s S A1 E.nx) : Go K A (tAsg te g) S E := fun R F σ H D a sd o =>
  h R F σ H _ a sd fun A1 s v F1 H1 h1 e1 a1 r1 => h1 R F1 σ H1 v _ a1 (sd.mono e1) r1 (o.nx.mono e1)
/-- name = e -/
theorem go_set {i : Nat} (h : Wp K A te S fun A1 s => E.nx A1 (S.set i s)) : Go K A (tAsg te (gName i)) S E := go_asg (h.imp fun _ _ q => gw_name q)
theorem go_par {i j : Nat} {ta : TA} (h : WpA K A ta S fun A1 ss => ∃ a b, ss = [a, b] ∧ E.nx A1 ((S.set i a).set j b)) : Go K A (tPar i j ta) S E := fun R F σ H D a sd o =>
  h R F σ H _ a sd fun A1 ss vs F1 H1 ⟨x, y, hs, hk⟩ e1 a1 r1 => by
    subst hs
    cases r1 with
    | cons q1 r2 =>
      cases r2 with
      | cons q2 r3 =>
        cases r3
        exact ⟨_, _, rfl, o.nx _ _ _ _ _ hk e1 a1 (((sd.mono e1).put i q1).put j q2)⟩
theorem go_aug {i : Nat} {f : Int → Int → Int} {x : Int} (e : S[i]? = some (.dat (.int x))) (h : Wp K A te S fun A1 s => ∃ y, s = .dat (.int y) ∧ E.nx A1 (S.set i (.dat (.int (f x y))))) : Go K A (tAug i te (ipI f)) S E := fun R F σ H D a sd o => by
  obtain ⟨v, h1, h2⟩ := sd.get e (by intro z; cases z)
  obtain rfl := sr_int h2
  refine ⟨.int x, h1, h R F σ H _ a sd fun A1 s w F1 H1 ⟨y, hs, hk⟩ e1 a1 r1 => ?_⟩
  subst hs
  obtain rfl := sr_int r1
  exact ⟨x, y, rfl, rfl, o.nx _ _ _ _ _ hk e1 a1 ((sd.mono e1).put i (.int _))⟩
/-- what is known of a slot may be turned: an owned list becomes data -/
theorem go_frz {i : Nat} {p : Addr} {ds : List PyData} {l' : List (Addr × Cell)} (e : S[i]? = some (.ptr p)) (hr : Rem A.cells p (.lst (ds.map .dat)) l') (h : Go K ⟨A.I, l'⟩ tu (S.set i (.dat (.list ds))) E) : Go K A tu S E := fun R F σ H D a sd o => by
  obtain ⟨v, h1, h2⟩ := sd.get e (by intro z; cases z)
  obtain rfl : v = .ref p := h2
  obtain ⟨F2, e2, a2, d2⟩ := At.frz (A := ⟨A.I, A.cells ++ R⟩) a hr.app
  have sd2 := (sd.mono e2).put i (s := .dat (.list ds)) d2
  have es : σ.set i (some (.ref p)) = σ := by
    refine List.ext_getElem? fun j => ?_
    by_cases hj : i = j
    · subst hj
      rw [List.getElem?_set_self (List.getElem?_eq_some_iff.mp h1).1]
      exact h1.symm
    · rw [List.getElem?_set_ne hj]
  rw [es] at sd2
  exact h R F2 σ H D a2 sd2 (o.mono e2)
theorem go_loss {p : Addr} {c : Cell} {l' : List (Addr × Cell)} (hr : Rem A.cells p c l') (h : Go K ⟨A.I, l'⟩ tu S E) : Go K A tu S E := fun R F σ H D a sd o => h R F σ H D (a.drop hr) sd o
end
end DL

/-! The data layer: what loops walk, loops, comprehensions, defs. -/
namespace DL
open PySem L2

/-- what an iterator yields, turn by turn -/
def Src (K : PySem.W.Frag) (F : Hp) (J : It) (xs : List SV) : Prop := ∀ A F' H i, Same F F' → At K A F' H →
  (xs.length ≤ i → J.stop i H) ∧ (∀ s, xs[i]? = some s → J.go i H ∧ ∀ x H', J.yld i H x H' → ∃ F'', Same F' F'' ∧ At K A F'' H' ∧ SR K F'' x s)
def IW (K : PySem.W.Frag) (A : Amb) (wi : TI) (S : List SV) (k : KS) : Prop := ∀ R F σ H Q, AtR K A R F H → SD K F σ S →
  (∀ A1 xs F1 H1 J, k A1 xs → Same F F1 → AtR K A1 R F1 H1 → Src K F1 J xs → Q J H1) → wi σ H Q
def irange (lo : Int) (n : Nat) : List SV := (List.range n).map fun (i : Nat) => .dat (.int (lo + i))
theorem irange_length (lo : Int) (n : Nat) : (irange lo n).length = n := by simp [irange]
theorem irange_get {lo : Int} {n i : Nat} {s : SV} (h : (irange lo n)[i]? = some s) : i < n ∧ s = .dat (.int (lo + i)) := by
  have hi : i < n := by
    have := (List.getElem?_eq_some_iff.mp h).1
    rwa [irange_length] at this
  refine ⟨hi, ?_⟩
  unfold irange at h
  rw [List.getElem?_map, List.getElem?_range hi] at h
  exact (Option.some.inj h).symm
section
variable {K : PySem.W.Frag} {A A' : Amb} {S S' : List SV} {ta tb te tl : TE} {t u : TT} {s s1 s2 : SV} {E : DE} {tu tw : TS} {g : TG} {wi wi1 : TI}
theorem src_list {F : Hp} {a : Addr} {xs : List V} {ss : List SV} (h : SqL K F a xs) (r : SRs K F xs ss) : Src K F (Itl K a) ss := fun A F' H i e at' => by
  have hH : SqL K H a xs := (e.trans at'.same).seq h
  refine ⟨fun hi => ⟨xs, hH, by rw [r.length]; exact hi⟩, fun s hs => ?_⟩
  obtain ⟨v, h1, h2⟩ := pget r hs
  refine ⟨⟨xs, v, hH, h1⟩, fun x H' y => ?_⟩
  obtain ⟨rfl, y⟩ := y
  have q := y xs hH
  rw [h1] at q
  cases q
  exact ⟨F', Same.refl F', at', h2.mono e⟩
theorem src_tup {F : Hp} {a : Addr} {xs : List V} {ss : List SV} (h : SqT K F a xs) (r : SRs K F xs ss) : Src K F (Itt K a) ss := fun A F' H i e at' => by
  have hH : SqT K H a xs := same_t (e.trans at'.same) h
  refine ⟨fun hi => ⟨xs, hH, by rw [r.length]; exact hi⟩, fun s hs => ?_⟩
  obtain ⟨v, h1, h2⟩ := pget r hs
  refine ⟨⟨xs, v, hH, h1⟩, fun x H' y => ?_⟩
  obtain ⟨rfl, y⟩ := y
  have q := y xs hH
  rw [h1] at q
  cases q
  exact ⟨F', Same.refl F', at', h2.mono e⟩
theorem iw_list {k : KS} (h : Wp K A tl S fun A1 s => ∃ ds, s = .dat (.list ds) ∧ k A1 (ds.map .dat)) : IW K A (iList K tl) S k := fun R F σ H Q a sd q =>
  h R F σ H _ a sd fun A1 s v F1 H1 ⟨ds, hs, hk⟩ e1 a1 r1 => by
    subst hs
    obtain ⟨p, xs, rfl, h1, h2⟩ := sr_lst r1
    exact ⟨p, rfl, ⟨xs, .inl (.inl (a1.same _ _ h1))⟩, q A1 _ F1 H1 _ hk e1 a1 (src_list (.inl (.inl h1)) (dats_srs h2))⟩
theorem ints_srs {F : Hp} : ∀ ns : List Int, SRs K F (ns.map V.int) (ns.map fun n => SV.dat (.int n))
  | [] => .nil
  | _ :: ns => .cons (.int _) (ints_srs ns)
theorem iw_scr {k : KS} (h : Wp K A tl S fun A1 s => ∃ ns, s = .scr ns ∧ k A1 (ns.map fun n => .dat (.int n))) : IW K A (iList K tl) S k := fun R F σ H Q a sd q =>
  h R F σ H _ a sd fun A1 s v F1 H1 ⟨ns, hs, hk⟩ e1 a1 r1 => by
    subst hs
    obtain ⟨p, rfl, h1⟩ := r1
    exact ⟨p, rfl, ⟨_, a1.same.seq h1⟩, q A1 _ F1 H1 _ hk e1 a1 (src_list h1 (ints_srs ns))⟩
theorem iw_tup {k : KS} (h : Wp K A tl S fun A1 s => ∃ ds, s = .dat (.tuple ds) ∧ k A1 (ds.map .dat)) : IW K A (iTup K tl) S k := fun R F σ H Q a sd q =>
  h R F σ H _ a sd fun A1 s v F1 H1 ⟨ds, hs, hk⟩ e1 a1 r1 => by
    subst hs
    obtain ⟨p, xs, rfl, h1, h2⟩ := sr_tup r1
    exact ⟨p, rfl, ⟨xs, same_t a1.same h1⟩, q A1 _ F1 H1 _ hk e1 a1 (src_tup h1 (dats_srs h2))⟩
theorem src_rng {F : Hp} {lo : Int} {n : Nat} : Src K F (Itr lo n) (irange lo n) := fun A F' H i e at' => by
  refine ⟨fun hi => by rw [irange_length] at hi; exact hi, fun s hs => ?_⟩
  obtain ⟨hi, rfl⟩ := irange_get hs
  refine ⟨hi, fun x H' y => ?_⟩
  obtain ⟨rfl, rfl⟩ := y
  exact ⟨F', Same.refl F', at', .int _⟩
theorem iw_rng1 {ta : TA} {k : KS} (h : WpA K A ta S fun A1 ss => ∃ n : Int, ss = [.dat (.int n)] ∧ -(2 ^ 62) ≤ n ∧ n < 2 ^ 62 ∧ k A1 (irange 0 n.toNat)) : IW K A (iRng1 ta) S k := fun R F σ H Q a sd q =>
  h R F σ H _ a sd fun A1 ss vs F1 H1 ⟨n, hs, h1, h2, hk⟩ e1 a1 r1 => by
    subst hs
    cases r1 with
    | cons q1 r2 =>
      cases r2
      obtain rfl := sr_int q1
      exact ⟨n, rfl, h1, h2, q A1 _ F1 H1 _ hk e1 a1 src_rng⟩
theorem iw_rng2 {ta : TA} {k : KS} (h : WpA K A ta S fun A1 ss => ∃ m n : Int, ss = [.dat (.int m), .dat (.int n)] ∧ (-(2 ^ 62) ≤ m ∧ m < 2 ^ 62 ∧ -(2 ^ 62) ≤ n ∧ n < 2 ^ 62) ∧ k A1 (irange m (n - m).toNat)) : IW K A (iRng2 ta) S k := fun R F σ H Q a sd q =>
  h R F σ H _ a sd fun A1 ss vs F1 H1 ⟨m, n, hs, h1, hk⟩ e1 a1 r1 => by
    subst hs
    cases r1 with
    | cons q1 r2 =>
      cases r2 with
      | cons q2 r3 =>
        cases r3
        obtain rfl := sr_int q1
        obtain rfl := sr_int q2
        exact ⟨m, n, rfl, h1, q A1 _ F1 H1 _ hk e1 a1 src_rng⟩

/-! ### for, while -/
theorem go_for (h : IW K A wi S fun A1 xs => ∃ J : Nat → KS, J 0 A1 S ∧
    (∀ i s A2 S2, xs[i]? = some s → J i A2 S2 → GW K g s S2 A2 fun A3 S3 => Go K A3 tu S3 (E.loop (J (i + 1)))) ∧ ∀ A2 S2, J xs.length A2 S2 → E.nx A2 S2) : Go K A (tFor wi g tu) S E := fun R F σ H D a sd o => by
  refine h R F σ H _ a sd fun A1 xs F1 H1 J ⟨Jd, j0, js, je⟩ e1 a1 src => ?_
  refine ⟨fun i m σ' H' => m = xs.length - i ∧ i ≤ xs.length ∧ ∃ A2 S2 F2, Jd i A2 S2 ∧ Same F1 F2 ∧ AtR K A2 R F2 H' ∧ SD K F2 σ' S2, ⟨_, rfl, Nat.zero_le _, A1, S, F1, j0, Same.refl F1, a1, sd.mono e1⟩, ?_⟩
  rintro i m σ2 H2 ⟨rfl, hi, A2, S2, F2, hj, e2, a2, sd2⟩
  by_cases hlt : i < xs.length
  · obtain ⟨hg, hy⟩ := (src _ F2 H2 i e2 a2).2 xs[i] (List.getElem?_eq_getElem hlt)
    refine .inr ⟨hg, fun σ' H' => ∃ A3 S3 F3, Jd (i + 1) A3 S3 ∧ Same F2 F3 ∧ AtR K A3 R F3 H' ∧ SD K F3 σ' S3, fun σ' H' ⟨A3, S3, F3, h3, e3, a3, sd3⟩ => ⟨xs.length - (i + 1), by omega, rfl, hlt, A3, S3, F3, h3, e2.trans e3, a3, sd3⟩, fun x H' y => ?_⟩
    obtain ⟨F3, e3, a3, r3⟩ := hy x H' y
    refine js i _ A2 S2 (List.getElem?_eq_getElem hlt) hj R F3 σ2 H' x _ a3 (sd2.mono e3) r3 fun A4 S4 F4 σ4 H4 h4 e4 a4 sd4 => ?_
    refine h4 R F4 σ4 H4 _ a4 sd4 ⟨fun A5 S5 F5 σ5 H5 h5 e5 a5 sd5 => ⟨A5, S5, F5, h5, (e3.trans e4).trans e5, a5, sd5⟩, fun A5 S5 F5 σ5 H5 h5 e5 a5 sd5 => o.nx A5 S5 F5 σ5 H5 h5 ((((e1.trans e2).trans e3).trans e4).trans e5) a5 sd5,
      fun A5 S5 F5 σ5 H5 h5 e5 a5 sd5 => ⟨A5, S5, F5, h5, (e3.trans e4).trans e5, a5, sd5⟩, o.rt.mono (((e1.trans e2).trans e3).trans e4)⟩
  · have ei : i = xs.length := by omega
    subst ei
    exact .inl ⟨(src _ F2 H2 xs.length e2 a2).1 (Nat.le_refl _), o.nx A2 S2 F2 σ2 H2 (je A2 S2 hj) (e1.trans e2) a2 sd2⟩
theorem go_while {tc : TT} (W : Nat → KS) (w0 : ∃ m, W m A S) (h : ∀ m A1 S1, W m A1 S1 → WpT K A1 tc S1 fun A2 b => (b = true → Go K A2 tu S1 (E.loop fun A3 S3 => ∃ m', m' < m ∧ W m' A3 S3)) ∧ (b = false → E.nx A2 S1)) :
    Go K A (tWhile tc tu) S E := fun R F σ H D a sd o => by
  obtain ⟨m0, w0⟩ := w0
  refine ⟨fun m σ' H' => ∃ A2 S2 F2, W m A2 S2 ∧ Same F F2 ∧ AtR K A2 R F2 H' ∧ SD K F2 σ' S2, ⟨m0, A, S, F, w0, Same.refl F, a, sd⟩, ?_⟩
  rintro m σ2 H2 ⟨A2, S2, F2, hw, e2, a2, sd2⟩
  refine h m A2 S2 hw R F2 σ2 H2 _ a2 sd2 fun A3 b F3 H3 h3 e3 a3 => ?_
  cases b with
  | true =>
    refine ⟨fun σ' H' => ∃ m', m' < m ∧ ∃ A4 S4 F4, W m' A4 S4 ∧ Same F3 F4 ∧ AtR K A4 R F4 H' ∧ SD K F4 σ' S4, fun σ' H' ⟨m', hm, A4, S4, F4, h4, e4, a4, sd4⟩ => ⟨m', hm, A4, S4, F4, h4, (e2.trans e3).trans e4, a4, sd4⟩, ?_⟩
    exact h3.1 rfl R F3 σ2 H3 _ a3 (sd2.mono e3) ⟨fun A5 S5 F5 σ5 H5 ⟨m', hm, h5⟩ e5 a5 sd5 => ⟨m', hm, A5, S5, F5, h5, e5, a5, sd5⟩, o.nx.mono (e2.trans e3), fun A5 S5 F5 σ5 H5 ⟨m', hm, h5⟩ e5 a5 sd5 => ⟨m', hm, A5, S5, F5, h5, e5, a5, sd5⟩, o.rt.mono (e2.trans e3)⟩
  | false => exact o.nx A3 S2 F3 σ2 H3 (h3.2 rfl) (e2.trans e3) a3 (sd2.mono e3)

/-! ### comprehensions -/
def wipeS (S : List SV) : List Nat → List SV
  | [] => S
  | v :: vs => (wipeS S vs).set v .no
theorem SD.wipe {F : Hp} {σ : St} (h : SD K F σ S) : ∀ vs : List Nat, SD K F (L2.wipe σ vs) (wipeS S vs)
  | [] => h
  | v :: vs => SD.out (SD.wipe h vs) v
theorem wipe_get (σ : St) : ∀ (vs : List Nat) (i : Nat), (L2.wipe σ vs)[i]? = if i ∈ vs then (σ[i]?).map fun _ => none else σ[i]?
  | [], i => by simp [L2.wipe]
  | v :: vs, i => by
    show ((L2.wipe σ vs).set v none)[i]? = _
    by_cases h : v = i
    · subst h
      rw [List.getElem?_set]
      simp only [List.mem_cons, true_or, if_true, L2.wipe_length]
      by_cases hv : v < σ.length
      · simp [hv]
      · simp [hv]
    · rw [List.getElem?_set_ne h, wipe_get σ vs i]
      have : (i ∈ v :: vs) ↔ i ∈ vs := by
        simp only [List.mem_cons]
        constructor
        · rintro (q | q)
          · exact absurd q.symm h
          · exact q
        · exact .inr
      simp only [this]
theorem wipe_set (σ : St) (vs : List Nat) {i : Nat} (h : i ∈ vs) (o : Option V) : L2.wipe (σ.set i o) vs = L2.wipe σ vs := by
  refine List.ext_getElem? fun j => ?_
  rw [wipe_get, wipe_get]
  by_cases hj : j ∈ vs
  · rw [if_pos hj, if_pos hj, List.getElem?_set]
    by_cases e : i = j
    · subst e
      by_cases hl : i < σ.length
      · simp [hl]
      · simp [hl]
    · simp [e]
  · rw [if_neg hj, if_neg hj, List.getElem?_set_ne (fun e => hj (by rw [← e]; exact h))]
theorem wipe_idem (σ : St) (vs : List Nat) : L2.wipe (L2.wipe σ vs) vs = L2.wipe σ vs := by
  refine List.ext_getElem? fun j => ?_
  rw [wipe_get, wipe_get]
  by_cases hj : j ∈ vs
  · simp only [if_pos hj]
    cases σ[j]? <;> rfl
  · simp only [if_neg hj]
/-- a target stores nowhere but in these slots -/
def TOnly (g : TG) (vs : List Nat) : Prop := ∀ v σ H R, g v σ H R → g v σ H fun σ' H' => L2.wipe σ' vs = L2.wipe σ vs ∧ R σ' H'
def TsOnly (g : TGs) (vs : List Nat) : Prop := ∀ xs σ H R, g xs σ H R → g xs σ H fun σ' H' => L2.wipe σ' vs = L2.wipe σ vs ∧ R σ' H'
theorem to_name {i : Nat} {vs : List Nat} (h : i ∈ vs) : TOnly (gName i) vs := fun v σ H R q => ⟨wipe_set σ vs h _, q⟩
theorem tos_nil {vs : List Nat} : TsOnly gNil vs := fun xs σ H R q => ⟨q.1, rfl, q.2⟩
/-- a target's continuation may be made weaker -/
def TMono (g : TG) : Prop := ∀ v σ H (R R' : St → Hp → Prop), (∀ σ' H', R σ' H' → R' σ' H') → g v σ H R → g v σ H R'
def TsMono (g : TGs) : Prop := ∀ xs σ H (R R' : St → Hp → Prop), (∀ σ' H', R σ' H' → R' σ' H') → g xs σ H R → g xs σ H R'
theorem tm_name {i : Nat} : TMono (gName i) := fun v σ H R R' i q => i _ _ q
theorem tms_nil : TsMono gNil := fun xs σ H R R' i q => ⟨q.1, i _ _ q.2⟩
theorem tms_cons {u : TGs} (m1 : TMono g) (m2 : TsMono u) : TsMono (gCons g u) := fun xs σ H R R' i q => by
  obtain ⟨v, r, e, q⟩ := q
  exact ⟨v, r, e, m1 _ _ _ _ _ (fun σ' H' q' => m2 _ _ _ _ _ i q') q⟩
theorem tm_tup {n : Nat} {u : TGs} (m : TsMono u) : TMono (gTup K n u) := fun v σ H R R' i q => by
  obtain ⟨a, xs, e, h1, h2, q⟩ := q
  exact ⟨a, xs, e, h1, h2, m _ _ _ _ _ i q⟩
theorem tos_cons {u : TGs} {vs : List Nat} (m1 : TMono g) (m2 : TsMono u) (h1 : TOnly g vs) (h2 : TsOnly u vs) : TsOnly (gCons g u) vs := fun xs σ H R q => by
  obtain ⟨v, r, e, q⟩ := q
  exact ⟨v, r, e, m1 _ _ _ _ _ (fun σ' H' ⟨w, q'⟩ => m2 _ _ _ _ _ (fun σ2 H2 ⟨w2, q2⟩ => ⟨w2.trans w, q2⟩) (h2 _ _ _ _ q')) (h1 _ _ _ _ q)⟩
theorem to_tup {n : Nat} {u : TGs} {vs : List Nat} (h : TsOnly u vs) : TOnly (gTup K n u) vs := fun v σ H R q => by
  obtain ⟨a, xs, e, h1, h2, q⟩ := q
  exact ⟨a, xs, e, h1, h2, h _ _ _ _ q⟩
theorem At.perm {I : Blk} {l l' : List (Addr × Cell)} {F H : Hp} (a : At K ⟨I, l⟩ F H) (p : l.Perm l') : At K ⟨I, l'⟩ F H :=
  ⟨a.same, a.blk, a.bfree, fun q c h => a.cell q c (p.mem_iff.mpr h), (p.map _).nodup_iff.mp a.nd⟩
/-- the new list D goes along behind -/
theorem AtR.front {R : List (Addr × Cell)} {F H : Hp} {p : Addr} {c : Cell} (a : AtR K A ((p, c) :: R) F H) : AtR K (A.add p c) R F H := At.perm a List.perm_middle
theorem AtR.back {R : List (Addr × Cell)} {F H : Hp} {p : Addr} {c : Cell} (a : AtR K (A.add p c) R F H) : AtR K A ((p, c) :: R) F H := At.perm a List.perm_middle.symm
theorem dats_app (as : List PyData) (b : PyData) : (as ++ [b]).map SV.dat = as.map SV.dat ++ [SV.dat b] := by simp
/-- how a comprehension goes, its items any: acc what is made so far -/
def LcStep (K : PySem.W.Frag) (g : TG) (tt : TT) (te : TE) (S : List SV) (vs : List Nat) (J J' : Amb → List SV → Prop) (s : SV) : Prop :=
  ∀ A2 acc, J A2 acc → GW K g s (wipeS S vs) A2 fun A3 S3 => WpT K A3 tt S3 fun A4 b => (b = true → Wp K A4 te S3 fun A5 s5 => acc.length < sizeLine ∧ J' A5 (acc ++ [s5])) ∧ (b = false → J' A4 acc)
theorem wp_lcO {tt : TT} {vs : List Nat} {k : KA} (to : TOnly g vs) (h : IW K A wi S fun A1 xs => ∃ J : Nat → KS, J 0 A1 [] ∧ (∀ i s, xs[i]? = some s → LcStep K g tt te S vs (J i) (J (i + 1)) s) ∧
    ∀ A2 acc, J xs.length A2 acc → ∀ p, k (A2.add p (.lst acc)) (.ptr p)) : Wp K A (tLc wi g tt te vs) S k := fun R F σ H Q a sd q => by
  refine h R F σ H _ a sd fun A1 xs F1 H1 J ⟨Jd, j0, js, je⟩ e1 a1 src p hp => ?_
  refine ⟨fun i m H' => m = xs.length - i ∧ i ≤ xs.length ∧ ∃ A2 acc F2, Jd i A2 acc ∧ Same F1 F2 ∧ AtR K A2 ((p, .lst acc) :: R) F2 H', ⟨_, rfl, Nat.zero_le _, A1, [], F1, j0, Same.refl F1, (a1.new (o := .lst []) (c := .lst []) hp ⟨[], upd_same, .nil⟩).back⟩, ?_⟩
  rintro i m H2 ⟨rfl, hi, A2, acc, F2, hj, e2, a2⟩
  by_cases hlt : i < xs.length
  · obtain ⟨hg, hy⟩ := (src _ F2 H2 i e2 a2).2 xs[i] (List.getElem?_eq_getElem hlt)
    refine .inr ⟨hg, fun H' => ∃ A3 acc3 F3, Jd (i + 1) A3 acc3 ∧ Same F2 F3 ∧ AtR K A3 ((p, .lst acc3) :: R) F3 H', fun H' ⟨A3, acc3, F3, h3, e3, a3⟩ => ⟨xs.length - (i + 1), by omega, rfl, hlt, A3, acc3, F3, h3, e2.trans e3, a3⟩, fun x H' y => ?_⟩
    obtain ⟨F3, e3, a3, r3⟩ := hy x H' y
    have g1 := js i _ (List.getElem?_eq_getElem hlt) A2 acc hj ((p, .lst acc) :: R) F3 (L2.wipe σ vs) H' x (fun σ2 H2 => tt σ2 H2 fun b H3 => if b = true then te σ2 H3 fun y H4 => ∃ acc, H4 p = some (.lst acc) ∧ acc.length < sizeLine ∧ ∃ A3 acc3 F3, Jd (i + 1) A3 acc3 ∧ Same F2 F3 ∧ AtR K A3 ((p, .lst acc3) :: R) F3 (upd H4 p (.lst (acc ++ [y]))) else ∃ A3 acc3 F3, Jd (i + 1) A3 acc3 ∧ Same F2 F3 ∧ AtR K A3 ((p, .lst acc3) :: R) F3 H3) a3 (((sd.mono e1).mono (e2.trans e3)).wipe vs) r3 ?_
    · have g2 := to x (L2.wipe σ vs) H' _ g1
      rw [wipe_idem] at g2
      exact g2
    intro A4 S4 F4 σ4 H4 h4 e4 a4 sd4
    refine h4 _ F4 σ4 H4 _ a4 sd4 fun A5 b F5 H5 h5 e5 a5 => ?_
    cases b with
    | true =>
      show te σ4 H5 _
      refine h5.1 rfl _ F5 σ4 H5 _ a5 (sd4.mono e5) fun A6 s6 v6 F6 H6 ⟨hl, h6⟩ e6 a6 r6 => ?_
      obtain ⟨_, _, us, f3, f4⟩ := At.cell a6 p (.lst acc) (List.mem_append_right _ List.mem_cons_self)
      refine ⟨us, f3, by rw [f4.length]; exact hl, A6, _, F6, h6, ((e3.trans e4).trans e5).trans e6, ?_⟩
      have a7 := (a6.front).put (o := .lst (us ++ [v6])) (c' := .lst (acc ++ [s6])) .head ⟨_, upd_same, papp f4 (.cons r6 .nil)⟩
      exact a7.back
    | false => exact ⟨A5, acc, F5, h5.2 rfl, (e3.trans e4).trans e5, a5⟩
  · have ei : i = xs.length := by omega
    subst ei
    refine .inl ⟨(src _ F2 H2 xs.length e2 a2).1 (Nat.le_refl _), ?_⟩
    exact q _ _ _ F2 H2 (je A2 acc hj p) (e1.trans e2) a2.front rfl
/-- .. as data -/
theorem wp_lc {tt : TT} {vs : List Nat} {k : KA} (to : TOnly g vs) (h : IW K A wi S fun A1 xs => ∃ J : Nat → KS, J 0 A1 [] ∧ (∀ i s, xs[i]? = some s → LcStep K g tt te S vs (J i) (J (i + 1)) s) ∧
    ∀ A2 acc, J xs.length A2 acc → ∃ ds, acc = ds.map .dat ∧ k A2 (.dat (.list ds))) : Wp K A (tLc wi g tt te vs) S k :=
  wp_frz (wp_lcO to fun R F σ H Q a sd q => h R F σ H Q a sd fun A1 xs F1 H1 J ⟨Jd, j0, js, je⟩ => q A1 xs F1 H1 J ⟨Jd, j0, js, fun A2 acc hj p => by
    obtain ⟨ds, rfl, hk⟩ := je A2 acc hj
    exact ⟨p, ds, A2.cells, rfl, .head, hk⟩⟩)
/-- .. of steps that leave what is owned: the items by a function -/
theorem wp_lcP {tt : TT} {vs : List Nat} {k : KA} (to : TOnly g vs) (h : IW K A wi S fun A1 (xs : List SV) => ∃ f : SV → Option PyData, xs.length ≤ sizeLine ∧
    (∀ (i : Nat) (s : SV), xs[i]? = some s → GW K g s (wipeS S vs) A1 fun A3 S3 => WpT K A3 tt S3 fun A4 b => (b = true → Wp K A4 te S3 fun A5 s5 => A5 = A1 ∧ ∃ d, s5 = .dat d ∧ f s = some d) ∧ (b = false → A4 = A1 ∧ f s = none)) ∧
    k A1 (.dat (.list (xs.filterMap f)))) : Wp K A (tLc wi g tt te vs) S k :=
  wp_lc to fun R F σ H Q a sd q => h R F σ H Q a sd fun A1 xs F1 H1 J ⟨f, hl, hs, hk⟩ => q A1 xs F1 H1 J
    ⟨fun i A2 acc => A2 = A1 ∧ i ≤ xs.length ∧ acc = ((xs.take i).filterMap f).map .dat, ⟨rfl, Nat.zero_le _, rfl⟩, fun i s hi A2 acc ⟨e1, e0, e2⟩ => by
      subst e1; subst e2
      have hlt := (List.getElem?_eq_some_iff.mp hi).1
      have ht : xs.take (i + 1) = xs.take i ++ [s] := by rw [List.take_add_one, hi]; rfl
      refine fun R' F' σ' H' v' Q' a' sd' r' q' => hs i s hi R' F' σ' H' v' Q' a' sd' r' fun A3 S3 F3 σ3 H3 h3 => q' A3 S3 F3 σ3 H3 (h3.imp fun A4 b ⟨h4, h5⟩ => ⟨fun hb => (h4 hb).imp fun A5 s5 ⟨e5, d, e6, e7⟩ => ?_, fun hb => ?_⟩)
      · subst e5; subst e6
        refine ⟨?_, rfl, hlt, by rw [ht, List.filterMap_append, List.map_append]; simp [e7]⟩
        have := List.length_filterMap_le f (xs.take i)
        rw [List.length_map]
        have h2 : (xs.take i).length = i := by rw [List.length_take]; omega
        omega
      · obtain ⟨e5, e6⟩ := h5 hb
        subst e5
        exact ⟨rfl, hlt, by rw [ht, List.filterMap_append]; simp [e6]⟩, fun A2 acc ⟨e1, e0, e2⟩ => by
      subst e1; subst e2
      exact ⟨_, rfl, by rw [List.take_length]; exact hk⟩⟩
end
end DL

/-! Rules by values that the hand layer lacks: sorted over data, in over tuples of data. -/
namespace DL
open PySem L2 PySem.W

abbrev dsort (ds : List PyData) : List PyData := ds.mergeSort (dataLe false id)
def rSortedD (K : PySem.W.Frag) : List V → Hp → VK → Prop := fun vs H Q => ∃ (a : Addr) (xs : List V) (ds : List PyData), vs = [V.ref a] ∧ SqL K H a xs ∧ DpAll K H xs ds ∧ AllAlike ds ∧ Sortable ds ∧ (∀ d ∈ ds, d.depth ≤ 60) ∧
  ∀ p, H p = none → Q (.ref p) (upd H p (.lst (((xs.zip ds).mergeSort (dataLe false Prod.snd)).map Prod.fst)))
section
variable {X : Cx}
theorem DpAll_length {K : PySem.W.Frag} {H : Hp} : ∀ {xs : List V} {ds : List PyData}, DpAll K H xs ds → xs.length = ds.length
  | _, _, .nil => rfl
  | _, _, .cons _ t => congrArg (· + 1) (DpAll_length t)
theorem each_zip {K : PySem.W.Frag} {H : Hp} : ∀ {xs : List V} {ds : List PyData} {us : List Value}, DpAll K H xs ds → Vals xs us → EachIs (fun (u : Value) (b : V × PyData) => RelV b.1 u) us (xs.zip ds)
  | _, _, _, .nil, .nil => .nil
  | _, _, _, .cons h t, .cons r rs => .cons r (each_zip t rs)
theorem each_reads {pins : List (Addr × Obj)} {σ : St} {H : Hp} {s : Shared} (I : Inv X pins σ H s) : ∀ {xs : List V} {ds : List PyData} {us : List Value}, DpAll X.K H xs ds → Vals xs us → EachIs (fun (u : Value) (b : V × PyData) => ∃ as, Reads s.heap u (Prod.snd b) as) us (xs.zip ds)
  | _, _, _, .nil, .nil => .nil
  | _, _, _, .cons h t, .cons r rs => .cons (Dp.reads I _ _ _ h r) (each_reads I t rs)
theorem each_vals : ∀ {us : List Value} {bs : List (V × PyData)}, EachIs (fun (u : Value) (b : V × PyData) => RelV b.1 u) us bs → Vals (bs.map Prod.fst) us
  | _, _, .nil => .nil
  | _, _, .cons r t => .cons r (each_vals t)
theorem cr_sortedD (hu : X.A.units + 65 < cLine) : CallR X (.builtin "sorted") (rSortedD X.K) := by
  intro pins s σ H vs us Q I r h
  obtain ⟨a, xs, ds, rfl, hs, hd, hal, hk, hdep, q⟩ := h
  obtain ⟨its, rv, hl, hz⟩ := I.list hs
  rw [Vals.ref1 r]
  have e2 : (xs.zip ds).map Prod.snd = ds := List.map_snd_zip (by rw [DpAll_length hd]; exact Nat.le_refl _)
  have hlen : (xs.zip ds).length = xs.length := by rw [List.length_zip, DpAll_length hd]; exact Nat.min_self _
  refine sorted_data (enc := Prod.snd) (bs := xs.zip ds) hl.isList (each_zip hd rv) (each_reads I hd rv) (by rw [e2]; exact hal) (by rw [e2]; exact hk) ?_ ?_ fun out h1 h2 => ?_
  · rw [hlen]
    exact hz
  · intro b hb
    have hb' : b.2 ∈ ds := by
      rw [← e2]
      exact List.mem_map.mpr ⟨b, hb, rfl⟩
    have := hdep _ hb'
    show X.A.units + 2 + (b.2).depth < cLine
    omega
  · obtain ⟨ep, he'⟩ := PyProof.Rows.sortedAll_at s.heap its (List.toArray out)
    have hv := each_vals h2
    refine ⟨.ref _, upd H (s.heap.objs.size + 1) (.lst _), I.laid (t' := s.toks) (fun _ _ => PyProof.Rows.sortedAll_old) (Nat.le_succ _) ⟨?_, out, ep, hv, he'⟩, rfl, q _ (I.hok.fresh (Nat.le_succ _))⟩
    rw [List.length_map, (List.mergeSort_perm _ _).length_eq, hlen]
    exact hz
def rInTD (K : PySem.W.Frag) : R2 := fun x y H Q => ∃ d ds, Dp K H x d ∧ (Dp K H y (.tuple ds) ∨ Dp K H y (.list ds)) ∧ SeqAt.shaped d = true ∧ SeqAt.shaped (.tuple ds) = true ∧ Q (.bl (ds.any fun z => PyData.eqv z d)) H
def rNotInTD (K : PySem.W.Frag) : R2 := fun x y H Q => ∃ d ds, Dp K H x d ∧ (Dp K H y (.tuple ds) ∨ Dp K H y (.list ds)) ∧ SeqAt.shaped d = true ∧ SeqAt.shaped (.tuple ds) = true ∧ Q (.bl (!ds.any fun z => PyData.eqv z d)) H
theorem op_inTD (hu : X.A.units + 65 < cLine) : OpR X (compareOp .In) (rInTD X.K) := by
  intro pins s σ H x y v u Q I rx ry h
  obtain ⟨d, ds, hd, he, sd, se, q⟩ := h
  obtain ⟨as, r1⟩ := Dp.reads I d x v hd rx
  rcases he with he | he
  · obtain ⟨bs, r2⟩ := Dp.reads I (.tuple ds) y u he ry
    exact SeqAt.in_tuple_reads r2 r1 (SeqAt.canLay_of_shaped se) (SeqAt.canLay_of_shaped sd) (PyProof.Rows.room_in_shaped sd hu) ⟨.bl _, H, I, rfl, q⟩
  · obtain ⟨bs, r2⟩ := Dp.reads I (.list ds) y u he ry
    exact SeqAt.in_list_reads r2 r1 (SeqAt.canLay_of_shaped se) (SeqAt.canLay_of_shaped sd) (PyProof.Rows.room_in_shaped sd hu) ⟨.bl _, H, I, rfl, q⟩
theorem op_notInTD (hu : X.A.units + 65 < cLine) : OpR X (compareOp .NotIn) (rNotInTD X.K) := by
  intro pins s σ H x y v u Q I rx ry h
  obtain ⟨d, ds, hd, he, sd, se, q⟩ := h
  obtain ⟨as, r1⟩ := Dp.reads I d x v hd rx
  rcases he with he | he
  · obtain ⟨bs, r2⟩ := Dp.reads I (.tuple ds) y u he ry
    exact SeqAt.notIn_tuple_reads r2 r1 (SeqAt.canLay_of_shaped se) (SeqAt.canLay_of_shaped sd) (PyProof.Rows.room_in_shaped sd hu) ⟨.bl _, H, I, rfl, q⟩
  · obtain ⟨bs, r2⟩ := Dp.reads I (.list ds) y u he ry
    exact SeqAt.notIn_list_reads r2 r1 (SeqAt.canLay_of_shaped se) (SeqAt.canLay_of_shaped sd) (PyProof.Rows.room_in_shaped sd hu) ⟨.bl _, H, I, rfl, q⟩
end
end DL

/-! The data layer: operators, built-ins, dicts, defs, blocks. -/
namespace DL
open PySem L2

def vd : V → Option PyData
  | .non => some .none
  | .bl b => some (.bool b)
  | .int i => some (.int i)
  | .str x => some (.str x)
  | _ => none
theorem vd_dt {K : PySem.W.Frag} {F : Hp} : ∀ {v : V} {d : PyData}, vd v = some d → Dt K F v d
  | .non, _, h => by cases h; exact .non
  | .bl b, _, h => by cases h; exact .bl b
  | .int i, _, h => by cases h; exact .int i
  | .str x, _, h => by cases h; exact .str x
  | .byt _, _, h => by cases h
  | .flt _, _, h => by cases h
  | .ref _, _, h => by cases h
  | .ty _, _, h => by cases h
section
variable {K : PySem.W.Frag} {A A' : Amb} {S S' : List SV} {k k' : KA} {ta tb te td ty tv : TE} {t u : TT} {s s1 s2 : SV} {E : DE} {tu tw : TS}
/-! ### operators -/
theorem rw_I0 {g : Int → Int → V} {i j : Int} {d : PyData} (e : vd (g i j) = some d) (h : k A (.dat d)) : RW K (rI0 g) (.dat (.int i)) (.dat (.int j)) A k := fun R F H v w Q a r1 r2 q => by
  obtain rfl := sr_int r1
  obtain rfl := sr_int r2
  exact ⟨i, j, rfl, rfl, q A _ _ F H h (Same.refl F) a (vd_dt e)⟩
theorem rw_I {C : Int → Int → Prop} {g : Int → Int → V} {i j : Int} {d : PyData} (hc : C i j) (e : vd (g i j) = some d) (h : k A (.dat d)) : RW K (rI C g) (.dat (.int i)) (.dat (.int j)) A k := fun R F H v w Q a r1 r2 q => by
  obtain rfl := sr_int r1
  obtain rfl := sr_int r2
  exact ⟨i, j, rfl, rfl, hc, q A _ _ F H h (Same.refl F) a (vd_dt e)⟩
theorem uw_U {g : Int → V} {i : Int} {d : PyData} (e : vd (g i) = some d) (h : k A (.dat d)) : UW K (rU g) (.dat (.int i)) A k := fun R F H v Q a r1 q => by
  obtain rfl := sr_int r1
  exact ⟨i, rfl, q A _ _ F H h (Same.refl F) a (vd_dt e)⟩
theorem rw_eqD {d e : PyData} (hd : SeqAt.shaped d = true) (he : SeqAt.shaped e = true) (h : k A (.dat (.bool (PyData.eqv d e)))) : RW K (rEqD K) (.dat d) (.dat e) A k := fun R F H v w Q a r1 r2 q =>
  ⟨d, e, (Dt.mono a.same r1).dp (nd_sh hd), (Dt.mono a.same r2).dp (nd_sh he), hd, he, q A _ _ F H h (Same.refl F) a (.bl _)⟩
theorem rw_neD {d e : PyData} (hd : SeqAt.shaped d = true) (he : SeqAt.shaped e = true) (h : k A (.dat (.bool (!PyData.eqv d e)))) : RW K (rNeD K) (.dat d) (.dat e) A k := fun R F H v w Q a r1 r2 q =>
  ⟨d, e, (Dt.mono a.same r1).dp (nd_sh hd), (Dt.mono a.same r2).dp (nd_sh he), hd, he, q A _ _ F H h (Same.refl F) a (.bl _)⟩
theorem AtR.cellD {R : List (Addr × Cell)} {F H : Hp} {p : Addr} {ds : List PyData} (a : AtR K A R F H) (h : (p, .lst (ds.map .dat)) ∈ A.cells) : ∃ vs, H p = some (.lst vs) ∧ DtAll K F vs ds := by
  obtain ⟨vs, h1, h2⟩ := a.cell h
  exact ⟨vs, h1, srs_dats h2⟩
theorem AtR.cellP {R : List (Addr × Cell)} {F H : Hp} {p : Addr} {ds : List PyData} (a : AtR K A R F H) (h : (p, .lst (ds.map .dat)) ∈ A.cells) : Dt K H (.ref p) (.list ds) := by
  obtain ⟨vs, h1, h2⟩ := a.cellD h
  exact Dt.lst h1 (h2.mono a.same)
/-- an owned list of data beside data -/
theorem rw_eqP {p : Addr} {ds : List PyData} {e : PyData} (hp : (p, .lst (ds.map .dat)) ∈ A.cells) (hd : SeqAt.shaped (.list ds) = true) (he : SeqAt.shaped e = true) (h : k A (.dat (.bool (PyData.eqv (.list ds) e)))) : RW K (rEqD K) (.ptr p) (.dat e) A k := fun R F H v w Q a r1 r2 q => by
  obtain rfl : v = .ref p := r1
  exact ⟨_, e, (a.cellP hp).dp (nd_sh hd), (Dt.mono a.same r2).dp (nd_sh he), hd, he, q A _ _ F H h (Same.refl F) a (.bl _)⟩
theorem rw_neP {p : Addr} {ds : List PyData} {e : PyData} (hp : (p, .lst (ds.map .dat)) ∈ A.cells) (hd : SeqAt.shaped (.list ds) = true) (he : SeqAt.shaped e = true) (h : k A (.dat (.bool (!PyData.eqv (.list ds) e)))) : RW K (rNeD K) (.ptr p) (.dat e) A k := fun R F H v w Q a r1 r2 q => by
  obtain rfl : v = .ref p := r1
  exact ⟨_, e, (a.cellP hp).dp (nd_sh hd), (Dt.mono a.same r2).dp (nd_sh he), hd, he, q A _ _ F H h (Same.refl F) a (.bl _)⟩
theorem rw_inT {d : PyData} {ds : List PyData} (hd : SeqAt.shaped d = true) (he : SeqAt.shaped (.tuple ds) = true) (h : k A (.dat (.bool (ds.any fun z => PyData.eqv z d)))) : RW K (rInTD K) (.dat d) (.dat (.tuple ds)) A k := fun R F H v w Q a r1 r2 q =>
  ⟨d, ds, (Dt.mono a.same r1).dp (nd_sh hd), .inl ((Dt.mono a.same r2).dp (nd_sh he)), hd, he, q A _ _ F H h (Same.refl F) a (.bl _)⟩
theorem rw_inL {d : PyData} {ds : List PyData} (hd : SeqAt.shaped d = true) (he : SeqAt.shaped (.tuple ds) = true) (h : k A (.dat (.bool (ds.any fun z => PyData.eqv z d)))) : RW K (rInTD K) (.dat d) (.dat (.list ds)) A k := fun R F H v w Q a r1 r2 q =>
  ⟨d, ds, (Dt.mono a.same r1).dp (nd_sh hd), .inr ((Dt.mono a.same r2).dp (nd_shT he)), hd, he, q A _ _ F H h (Same.refl F) a (.bl _)⟩
theorem rw_niT {d : PyData} {ds : List PyData} (hd : SeqAt.shaped d = true) (he : SeqAt.shaped (.tuple ds) = true) (h : k A (.dat (.bool (!ds.any fun z => PyData.eqv z d)))) : RW K (rNotInTD K) (.dat d) (.dat (.tuple ds)) A k := fun R F H v w Q a r1 r2 q =>
  ⟨d, ds, (Dt.mono a.same r1).dp (nd_sh hd), .inl ((Dt.mono a.same r2).dp (nd_sh he)), hd, he, q A _ _ F H h (Same.refl F) a (.bl _)⟩
theorem rw_niL {d : PyData} {ds : List PyData} (hd : SeqAt.shaped d = true) (he : SeqAt.shaped (.tuple ds) = true) (h : k A (.dat (.bool (!ds.any fun z => PyData.eqv z d)))) : RW K (rNotInTD K) (.dat d) (.dat (.list ds)) A k := fun R F H v w Q a r1 r2 q =>
  ⟨d, ds, (Dt.mono a.same r1).dp (nd_sh hd), .inr ((Dt.mono a.same r2).dp (nd_shT he)), hd, he, q A _ _ F H h (Same.refl F) a (.bl _)⟩
/-- x in an owned list of data -/
theorem rw_inP {d : PyData} {p : Addr} {ds : List PyData} (hp : (p, .lst (ds.map .dat)) ∈ A.cells) (hd : SeqAt.shaped d = true) (he : SeqAt.shaped (.tuple ds) = true) (h : k A (.dat (.bool (ds.any fun z => PyData.eqv z d)))) : RW K (rInTD K) (.dat d) (.ptr p) A k := fun R F H v w Q a r1 r2 q => by
  obtain rfl : w = .ref p := r2
  exact ⟨d, ds, (Dt.mono a.same r1).dp (nd_sh hd), .inr ((a.cellP hp).dp (nd_shT he)), hd, he, q A _ _ F H h (Same.refl F) a (.bl _)⟩
theorem rw_niP {d : PyData} {p : Addr} {ds : List PyData} (hp : (p, .lst (ds.map .dat)) ∈ A.cells) (hd : SeqAt.shaped d = true) (he : SeqAt.shaped (.tuple ds) = true) (h : k A (.dat (.bool (!ds.any fun z => PyData.eqv z d)))) : RW K (rNotInTD K) (.dat d) (.ptr p) A k := fun R F H v w Q a r1 r2 q => by
  obtain rfl : w = .ref p := r2
  exact ⟨d, ds, (Dt.mono a.same r1).dp (nd_sh hd), .inr ((a.cellP hp).dp (nd_shT he)), hd, he, q A _ _ F H h (Same.refl F) a (.bl _)⟩
theorem atI_map {α β : Type} (f : α → β) (xs : List α) (i : Int) : atI (xs.map f) i = (atI xs i).map f := by
  unfold atI
  rw [List.length_map]
  cases ixN xs.length i with
  | none => rfl
  | some j => simp
theorem atI_all {F : Hp} {xs : List V} {ds : List PyData} {i : Int} {d : PyData} (h : DtAll K F xs ds) (e : atI ds i = some d) : ∃ v, atI xs i = some v ∧ Dt K F v d := by
  unfold atI at e ⊢
  rw [h.length]
  cases hj : ixN ds.length i with
  | none => rw [hj] at e; cases e
  | some j =>
    rw [hj] at e
    exact h.getD (i := j) e
theorem atI_srs {F : Hp} {xs : List V} {ss : List SV} {i : Int} {s : SV} (h : SRs K F xs ss) (e : atI ss i = some s) : ∃ v, atI xs i = some v ∧ SR K F v s := by
  unfold atI at e ⊢
  rw [h.length]
  cases hj : ixN ss.length i with
  | none => rw [hj] at e; cases e
  | some j =>
    rw [hj] at e
    exact pget h (i := j) e
theorem rw_ixT {ds : List PyData} {i : Int} {d : PyData} (e : atI ds i = some d) (h : k A (.dat d)) : RW K (rIx K) (.dat (.tuple ds)) (.dat (.int i)) A k := fun R F H v w Q a r1 r2 q => by
  obtain ⟨p, xs, rfl, h1, h2⟩ := sr_tup r1
  obtain rfl := sr_int r2
  obtain ⟨x, h3, h4⟩ := atI_all h2 e
  exact .inr (.inl ⟨p, xs, i, x, rfl, rfl, same_t a.same h1, h3, q A _ _ F H h (Same.refl F) a h4⟩)
theorem rw_ixL {ds : List PyData} {i : Int} {d : PyData} (e : atI ds i = some d) (h : k A (.dat d)) : RW K (rIx K) (.dat (.list ds)) (.dat (.int i)) A k := fun R F H v w Q a r1 r2 q => by
  obtain ⟨p, xs, rfl, h1, h2⟩ := sr_lst r1
  obtain rfl := sr_int r2
  obtain ⟨x, h3, h4⟩ := atI_all h2 e
  exact .inl ⟨p, xs, i, x, rfl, rfl, .inl (.inl (a.same _ _ h1)), h3, q A _ _ F H h (Same.refl F) a h4⟩
theorem rw_ixP {p : Addr} {xs : List SV} {i : Int} {s : SV} (hp : (p, .lst xs) ∈ A.cells) (e : atI xs i = some s) (h : k A s) : RW K (rIx K) (.ptr p) (.dat (.int i)) A k := fun R F H v w Q a r1 r2 q => by
  obtain rfl : v = .ref p := r1
  obtain rfl := sr_int r2
  obtain ⟨vs, h1, h2⟩ := a.cell hp
  obtain ⟨x, h3, h4⟩ := atI_srs h2 e
  exact .inl ⟨p, vs, i, x, rfl, rfl, .inl (.inl h1), h3, q A _ _ F H h (Same.refl F) a h4⟩
theorem rw_ixS {ns : List Int} {i : Int} {n : Int} (e : atI ns i = some n) (h : k A (.dat (.int n))) : RW K (rIx K) (.scr ns) (.dat (.int i)) A k := fun R F H v w Q a r1 r2 q => by
  obtain ⟨p, rfl, h1⟩ := r1
  obtain rfl := sr_int r2
  exact .inl ⟨p, _, i, .int n, rfl, rfl, a.same.seq h1, by rw [atI_map, e]; rfl, q A _ _ F H h (Same.refl F) a (.int n)⟩
theorem rw_ixX {z : Str} {i : Int} {c : Nat} (hz : z.length ≤ sizeLine) (e : atI z.cps.toList i = some c) (h : k A (.dat (.str ⟨#[c]⟩))) : RW K (rIx K) (.dat (.str z)) (.dat (.int i)) A k := fun R F H v w Q a r1 r2 q => by
  obtain rfl := sr_str r1
  obtain rfl := sr_int r2
  exact .inr (.inr ⟨z, i, c, rfl, rfl, hz, e, q A _ _ F H h (Same.refl F) a (.str _)⟩)
/-- two lists of data put together: a new one, as data -/
theorem rw_cat {ds es : List PyData} (hl : ds.length + es.length ≤ sizeLine) (h : k A (.dat (.list (ds ++ es)))) : RW K rCat (.dat (.list ds)) (.dat (.list es)) A k := fun R F H v w Q a r1 r2 q => by
  obtain ⟨p, xs, rfl, h1, h2⟩ := sr_lst r1
  obtain ⟨p', ys, rfl, h3, h4⟩ := sr_lst r2
  refine ⟨p, p', xs, ys, rfl, rfl, a.same _ _ h1, a.same _ _ h3, by rw [h2.length, h4.length]; exact hl, fun n hn => ?_⟩
  obtain ⟨a2, e2⟩ := a.alloc (o := .lst (xs ++ ys)) hn
  exact q A _ _ _ _ h e2 a2 (.lst upd_same ((h2.append h4).mono e2))
/-! ### built-ins -/
def rLenD (K : PySem.W.Frag) : List V → Hp → VK → Prop := fun xs H Q => ∃ x n, xs = [x] ∧ LenV K x H n ∧ Q (.int n) H
theorem call_lenA {X : Cx} : CallR X (.builtin "len") (rLenD X.K) := call_len
def rListD2 (K : PySem.W.Frag) : List V → Hp → VK → Prop := fun xs H Q => ∃ p ys, xs = [.ref p] ∧ (SqL K H p ys ∨ SqT K H p ys) ∧ ∀ l, H l = none → Q (.ref l) (upd H l (.lst ys))
theorem call_listA {X : Cx} : CallR X (.type "list") (rListD2 X.K) := call_list_of
def rTupD2 (K : PySem.W.Frag) : List V → Hp → VK → Prop := fun xs H Q => ∃ p ys, xs = [.ref p] ∧ ((SqL K H p ys ∧ ∀ l, H l = none → Q (.ref l) (upd H l (.tup ys))) ∨ (SqT K H p ys ∧ Q (.ref p) H))
theorem call_tupA {X : Cx} : CallR X (.type "tuple") (rTupD2 X.K) := call_tuple_of
theorem one_of {F : Hp} {vs : List V} (r : SRs K F vs [s]) : ∃ v, vs = [v] ∧ SR K F v s := by
  cases r with
  | cons r1 r2 =>
    cases r2
    exact ⟨_, rfl, r1⟩
theorem two_of {F : Hp} {vs : List V} (r : SRs K F vs [s1, s2]) : ∃ v w, vs = [v, w] ∧ SR K F v s1 ∧ SR K F w s2 := by
  cases r with
  | cons r1 r2 =>
    cases r2 with
    | cons r3 r4 =>
      cases r4
      exact ⟨_, _, rfl, r1, r3⟩
theorem cw_lenL {ds : List PyData} (h : k A (.dat (.int ds.length))) : CW K (rLenD K) [.dat (.list ds)] A k := fun R F H vs Q a r q => by
  obtain ⟨v, rfl, r1⟩ := one_of r
  obtain ⟨p, xs, rfl, h1, h2⟩ := sr_lst r1
  exact ⟨_, xs.length, rfl, .inl ⟨xs, .inl (.inl (a.same _ _ h1)), rfl⟩, by rw [h2.length]; exact q A _ _ F H h (Same.refl F) a (.int _)⟩
theorem cw_lenT {ds : List PyData} (h : k A (.dat (.int ds.length))) : CW K (rLenD K) [.dat (.tuple ds)] A k := fun R F H vs Q a r q => by
  obtain ⟨v, rfl, r1⟩ := one_of r
  obtain ⟨p, xs, rfl, h1, h2⟩ := sr_tup r1
  exact ⟨_, xs.length, rfl, .inr ⟨xs, same_t a.same h1, rfl⟩, by rw [h2.length]; exact q A _ _ F H h (Same.refl F) a (.int _)⟩
theorem cw_lenP {p : Addr} {xs : List SV} (hp : (p, .lst xs) ∈ A.cells) (h : k A (.dat (.int xs.length))) : CW K (rLenD K) [.ptr p] A k := fun R F H vs Q a r q => by
  obtain ⟨v, rfl, r1⟩ := one_of r
  obtain rfl : v = .ref p := r1
  obtain ⟨us, h1, h2⟩ := a.cell hp
  exact ⟨_, us.length, rfl, .inl ⟨us, .inl (.inl h1), rfl⟩, by rw [h2.length]; exact q A _ _ F H h (Same.refl F) a (.int _)⟩
theorem cw_lenS {ns : List Int} (h : k A (.dat (.int ns.length))) : CW K (rLenD K) [.scr ns] A k := fun R F H vs Q a r q => by
  obtain ⟨v, rfl, p, rfl, h1⟩ := one_of r
  exact ⟨_, (ns.map V.int).length, rfl, .inl ⟨_, a.same.seq h1, rfl⟩, by rw [List.length_map]; exact q A _ _ F H h (Same.refl F) a (.int _)⟩
theorem cw_lenX {z : Str} (hz : z.length ≤ sizeLine) (h : k A (.dat (.int z.length))) : CW K (rLenD K) [.dat (.str z)] A k := fun R F H vs Q a r q => by
  obtain ⟨v, rfl, r1⟩ := one_of r
  obtain rfl := sr_str r1
  exact ⟨_, z.length, rfl, ⟨hz, rfl⟩, q A _ _ F H h (Same.refl F) a (.int _)⟩
/-- list(x): a new list, one's own -/
theorem cw_listS {ns : List Int} (h : ∀ p, k (A.add p (.lst (ns.map fun n => .dat (.int n)))) (.ptr p)) : CW K (rListD2 K) [.scr ns] A k := fun R F H vs Q a r q => by
  obtain ⟨v, rfl, p, rfl, h1⟩ := one_of r
  refine ⟨p, _, rfl, .inl (a.same.seq h1), fun l hl => ?_⟩
  exact q _ _ _ _ _ (h l) (Same.refl F) (a.new hl ⟨_, upd_same, ints_srs ns⟩) rfl
theorem cw_listD {ds : List PyData} {d : PyData} (hd : d = .list ds ∨ d = .tuple ds) (h : ∀ p, k (A.add p (.lst (ds.map .dat))) (.ptr p)) : CW K (rListD2 K) [.dat d] A k := fun R F H vs Q a r q => by
  obtain ⟨v, rfl, r1⟩ := one_of r
  rcases hd with rfl | rfl
  · obtain ⟨p, xs, rfl, h1, h2⟩ := sr_lst r1
    exact ⟨p, xs, rfl, .inl (.inl (.inl (a.same _ _ h1))), fun l hl => q _ _ _ _ _ (h l) (Same.refl F) (a.new (o := .lst xs) (c := .lst (ds.map .dat)) hl ⟨xs, upd_same, dats_srs h2⟩) rfl⟩
  · obtain ⟨p, xs, rfl, h1, h2⟩ := sr_tup r1
    exact ⟨p, xs, rfl, .inr (same_t a.same h1), fun l hl => q _ _ _ _ _ (h l) (Same.refl F) (a.new (o := .lst xs) (c := .lst (ds.map .dat)) hl ⟨xs, upd_same, dats_srs h2⟩) rfl⟩
theorem cw_tupD {ds : List PyData} {d : PyData} (hd : d = .list ds ∨ d = .tuple ds) (h : k A (.dat (.tuple ds))) : CW K (rTupD2 K) [.dat d] A k := fun R F H vs Q a r q => by
  obtain ⟨v, rfl, r1⟩ := one_of r
  rcases hd with rfl | rfl
  · obtain ⟨p, xs, rfl, h1, h2⟩ := sr_lst r1
    refine ⟨p, xs, rfl, .inl ⟨.inl (.inl (a.same _ _ h1)), fun l hl => ?_⟩⟩
    obtain ⟨a2, e2⟩ := a.alloc (o := .tup xs) hl
    exact q A _ _ _ _ h e2 a2 (.tup (SqT.of upd_same) (h2.mono e2))
  · obtain ⟨p, xs, rfl, h1, h2⟩ := sr_tup r1
    exact ⟨p, xs, rfl, .inr ⟨same_t a.same h1, q A _ _ F H h (Same.refl F) a r1⟩⟩
/-- tuple(x) of an owned list of data -/
theorem cw_tupP {p : Addr} {ds : List PyData} (hp : (p, .lst (ds.map .dat)) ∈ A.cells) (h : k A (.dat (.tuple ds))) : CW K (rTupD2 K) [.ptr p] A k := fun R F H vs Q a r q => by
  obtain ⟨v, rfl, r1⟩ := one_of r
  obtain rfl : v = .ref p := r1
  obtain ⟨xs, h1, h2⟩ := a.cellD hp
  refine ⟨p, xs, rfl, .inl ⟨.inl (.inl h1), fun l hl => ?_⟩⟩
  obtain ⟨a2, e2⟩ := a.alloc (o := .tup xs) hl
  exact q A _ _ _ _ h e2 a2 (.tup (SqT.of upd_same) (h2.mono e2))
theorem dt_mem {F : Hp} : ∀ {xs : List V} {ds : List PyData}, DtAll K F xs ds → ∀ p ∈ xs.zip ds, Dt K F p.1 p.2
  | _, _, .nil, p, h => by simp at h
  | _, _, .cons h t, p, hp => by
    rw [List.zip_cons_cons] at hp
    rcases List.mem_cons.mp hp with rfl | hp
    · exact h
    · exact dt_mem t p hp
theorem dt_of {F : Hp} : ∀ {zs : List (V × PyData)}, (∀ p ∈ zs, Dt K F p.1 p.2) → DtAll K F (zs.map Prod.fst) (zs.map Prod.snd)
  | [], _ => .nil
  | z :: zs, h => .cons (h z List.mem_cons_self) (dt_of fun p hp => h p (List.mem_cons_of_mem _ hp))
theorem dpall_of {F : Hp} : ∀ {xs : List V} {ds : List PyData}, DtAll K F xs ds → (∀ d ∈ ds, d.hasDict = false) → DpAll K F xs ds
  | _, _, .nil, _ => .nil
  | _, _, .cons h t, n => .cons (h.dp (n _ List.mem_cons_self)) (dpall_of t fun d hd => n d (List.mem_cons_of_mem _ hd))
mutual
theorem nd_alike : ∀ d : PyData, PySem.W.alike d d = true → d.hasDict = false
  | .none, _ => by simp only [PyData.hasDict]
  | .bool _, _ => by simp only [PyData.hasDict]
  | .int _, _ => by simp only [PyData.hasDict]
  | .str _, _ => by simp only [PyData.hasDict]
  | .list xs, h => by simp only [PyData.hasDict]; exact nd_alikeA xs (by simpa only [PySem.W.alike] using h)
  | .tuple xs, h => by simp only [PyData.hasDict]; exact nd_alikeA xs (by simpa only [PySem.W.alike] using h)
  | .dict _, h => by simp [PySem.W.alike] at h
theorem nd_alikeA : ∀ xs : List PyData, PySem.W.alikeAll xs xs = true → PyData.hasDictAll xs = false
  | [], _ => by simp only [PyData.hasDictAll]
  | x :: xs, h => by
    simp only [PySem.W.alikeAll, Bool.and_eq_true] at h
    simp only [PyData.hasDictAll, nd_alike x h.1, nd_alikeA xs h.2, Bool.or_false]
end
theorem sort_dt {F : Hp} {xs : List V} {ds : List PyData} (h : DtAll K F xs ds) : DtAll K F (((xs.zip ds).mergeSort (PySem.W.dataLe false Prod.snd)).map Prod.fst) (dsort ds) := by
  have e : ((xs.zip ds).mergeSort (PySem.W.dataLe false Prod.snd)).map Prod.snd = dsort ds := by
    rw [PySem.W.sort_maps (r := PySem.W.dataLe false Prod.snd) (s := PySem.W.dataLe false id) Prod.snd (fun _ _ _ _ => rfl), List.map_snd_zip (by rw [h.length]; exact Nat.le_refl _)]
  rw [← e]
  exact dt_of fun p hp => dt_mem h p ((List.mergeSort_perm _ _).mem_iff.mp hp)
/-- sorted(x) of a list of data: a new list, one's own -/
theorem cw_sortL {ds : List PyData} (hal : PySem.W.AllAlike ds) (hk : PySem.W.Sortable ds) (hdep : ∀ d ∈ ds, d.depth ≤ 60) (h : ∀ p, k (A.add p (.lst ((dsort ds).map .dat))) (.ptr p)) : CW K (rSortedD K) [.dat (.list ds)] A k := fun R F H vs Q a r q => by
  obtain ⟨v, rfl, r1⟩ := one_of r
  obtain ⟨p, xs, rfl, h1, h2⟩ := sr_lst r1
  exact ⟨p, xs, ds, rfl, .inl (.inl (a.same _ _ h1)), dpall_of (h2.mono a.same) (fun d hd => nd_alike d (hal d hd d hd)), hal, hk, hdep, fun l hl => q _ _ _ _ _ (h l) (Same.refl F) (a.new (o := .lst _) (c := .lst ((dsort ds).map .dat)) hl ⟨_, upd_same, dats_srs (sort_dt h2)⟩) rfl⟩
theorem cw_sortP {p : Addr} {ds : List PyData} (hp : (p, .lst (ds.map .dat)) ∈ A.cells) (hal : PySem.W.AllAlike ds) (hk : PySem.W.Sortable ds) (hdep : ∀ d ∈ ds, d.depth ≤ 60) (h : ∀ p, k (A.add p (.lst ((dsort ds).map .dat))) (.ptr p)) : CW K (rSortedD K) [.ptr p] A k := fun R F H vs Q a r q => by
  obtain ⟨v, rfl, r1⟩ := one_of r
  obtain rfl : v = .ref p := r1
  obtain ⟨xs, h1, h2⟩ := a.cellD hp
  exact ⟨p, xs, ds, rfl, .inl (.inl h1), dpall_of (h2.mono a.same) (fun d hd => nd_alike d (hal d hd d hd)), hal, hk, hdep, fun l hl => q _ _ _ _ _ (h l) (Same.refl F) (a.new (o := .lst _) (c := .lst ((dsort ds).map .dat)) hl ⟨_, upd_same, dats_srs (sort_dt h2)⟩) rfl⟩

/-! ### methods of owned lists -/
/-- xs.append(e) -/
theorem wp_append (h : Wp K A ta S fun A1 s => ∃ p xs, s = .ptr p ∧ (p, .lst xs) ∈ A1.cells ∧ Wp K A1 te S fun A2 s2 => ∃ xs l', Upd A2.cells p (.lst xs) (.lst (xs ++ [s2])) l' ∧ xs.length < sizeLine ∧ k ⟨A2.I, l'⟩ (.dat .none)) :
    Wp K A (tBM K "list" rAppend ta (tCons te tNil)) S k := fun R F σ H Q a sd q =>
  h R F σ H _ a sd fun A1 s v F1 H1 ⟨p, xs, hs, hp, hw⟩ e1 a1 r1 => by
    subst hs
    obtain rfl : v = .ref p := r1
    obtain ⟨us, h1, h2⟩ := a1.cell hp
    refine ⟨.inl ⟨rfl, us, .inl (.inl h1)⟩, hw R F1 σ H1 _ a1 (sd.mono e1) fun A2 s2 w F2 H2 ⟨ys, l', hu, hl, hk⟩ e2 a2 r2 => ?_⟩
    obtain ⟨ws, h3, h4⟩ := a2.cell hu.mem
    refine ⟨p, ws, w, rfl, rfl, h3, by rw [h4.length]; exact hl, ?_⟩
    exact q _ _ _ _ _ hk (e1.trans e2) (a2.put hu ⟨_, upd_same, papp h4 (.cons r2 .nil)⟩) .non
theorem paired_last {α β : Type} {R : α → β → Prop} {as : List α} {bs : List β} (h : Paired R as bs) {b : β} (e : bs[bs.length - 1]? = some b) : ∃ a, as[as.length - 1]? = some a ∧ R a b := by
  rw [h.length]
  exact pget h e
theorem paired_init {α β : Type} {R : α → β → Prop} : ∀ {as : List α} {bs : List β}, Paired R as bs → Paired R as.dropLast bs.dropLast
  | _, _, .nil => .nil
  | _, _, .cons _ .nil => .nil
  | _, _, .cons r (.cons r2 t) => .cons r (paired_init (.cons r2 t))
theorem paired_erase {α β : Type} {R : α → β → Prop} : ∀ {as : List α} {bs : List β} (k : Nat), Paired R as bs → Paired R (as.eraseIdx k) (bs.eraseIdx k)
  | _, _, _, .nil => .nil
  | _, _, 0, .cons _ t => t
  | _, _, k + 1, .cons r t => .cons r (paired_erase k t)
/-- xs.pop() -/
theorem wp_pop (h : Wp K A ta S fun A1 s => ∃ p xs x l', s = .ptr p ∧ Upd A1.cells p (.lst xs) (.lst xs.dropLast) l' ∧ xs[xs.length - 1]? = some x ∧ k ⟨A1.I, l'⟩ x) : Wp K A (tBM0 K "list" rPop ta) S k := fun R F σ H Q a sd q =>
  h R F σ H _ a sd fun A1 s v F1 H1 ⟨p, xs, x, l', hs, hu, hx, hk⟩ e1 a1 r1 => by
    subst hs
    obtain rfl : v = .ref p := r1
    obtain ⟨us, h1, h2⟩ := a1.cell hu.mem
    obtain ⟨w, h3, h4⟩ := paired_last h2 hx
    exact ⟨.inl ⟨rfl, us, .inl (.inl h1)⟩, p, us, w, rfl, rfl, h1, h3, q _ _ _ _ _ hk e1 (a1.put hu ⟨_, upd_same, paired_init h2⟩) h4⟩
/-- xs.clear() -/
theorem wp_clear (h : Wp K A ta S fun A1 s => ∃ p xs l', s = .ptr p ∧ Upd A1.cells p (.lst xs) (.lst []) l' ∧ k ⟨A1.I, l'⟩ (.dat .none)) : Wp K A (tBM0 K "list" rClear ta) S k := fun R F σ H Q a sd q =>
  h R F σ H _ a sd fun A1 s v F1 H1 ⟨p, xs, l', hs, hu, hk⟩ e1 a1 r1 => by
    subst hs
    obtain rfl : v = .ref p := r1
    obtain ⟨us, h1, h2⟩ := a1.cell hu.mem
    exact ⟨.inl ⟨rfl, us, .inl (.inl h1)⟩, p, us, rfl, rfl, h1, q _ _ _ _ _ hk e1 (a1.put hu ⟨_, upd_same, .nil⟩) .non⟩

/-! ### owned dicts -/
def lookS {κ : Type} [DecidableEq κ] (kvs : List (κ × SV)) (x : κ) : Option SV := (kvs.find? fun kv => decide (kv.1 = x)).map (·.2)
def putS {κ : Type} [DecidableEq κ] (kvs : List (κ × SV)) (x : κ) (v : SV) : List (κ × SV) :=
  if (kvs.any fun kv => decide (kv.1 = x)) = true then kvs.map (fun kv => if kv.1 = x then (kv.1, v) else kv) else kvs ++ [(x, v)]
section
variable {κ : Type} [DecidableEq κ] {F : Hp}
theorem kvr_look : ∀ {vs : List (κ × V)} {kvs : List (κ × SV)} {x : κ}, KVR K F vs kvs → (∀ s, lookS kvs x = some s → ∃ v, valV vs x = some v ∧ SR K F v s) ∧ (lookS kvs x = none → valV vs x = none)
  | _, _, x, .nil => ⟨fun s h => (by cases h), fun _ => rfl⟩
  | _, _, x, .cons (a := a) (b := b) (l₁ := l₁) (l₂ := l₂) r t => by
    obtain ⟨r1, r2⟩ := r
    have e1 : valV (a :: l₁) x = if a.1 = x then some a.2 else valV l₁ x := by
      unfold valV
      rw [List.find?_cons]
      by_cases h : a.1 = x
      · simp [h]
      · simp [h]
    have e2 : lookS (b :: l₂) x = if b.1 = x then some b.2 else lookS l₂ x := by
      unfold lookS
      rw [List.find?_cons]
      by_cases h : b.1 = x
      · simp [h]
      · simp [h]
    rw [e1, e2, ← r1]
    obtain ⟨i1, i2⟩ := kvr_look (x := x) t
    by_cases h : a.1 = x
    · rw [if_pos h, if_pos h]
      exact ⟨fun s e => ⟨a.2, rfl, by rw [← Option.some.inj e]; exact r2⟩, fun e => (by cases e)⟩
    · rw [if_neg h, if_neg h]
      exact ⟨i1, i2⟩
theorem kvr_any {x : κ} : ∀ {vs : List (κ × V)} {kvs : List (κ × SV)}, KVR K F vs kvs → (vs.any fun kv => decide (kv.1 = x)) = kvs.any fun kv => decide (kv.1 = x)
  | _, _, .nil => rfl
  | _, _, .cons r t => by
    rw [List.any_cons, List.any_cons, kvr_any t, r.1]
theorem kvr_map {x : κ} {v : V} {s : SV} (r : SR K F v s) : ∀ {vs : List (κ × V)} {kvs : List (κ × SV)}, KVR K F vs kvs → KVR K F (vs.map fun kv => if kv.1 = x then (kv.1, v) else kv) (kvs.map fun kv => if kv.1 = x then (kv.1, s) else kv)
  | _, _, .nil => .nil
  | _, _, .cons (a := a) (b := b) q t => by
    refine .cons ?_ (kvr_map r t)
    show (if a.1 = x then (a.1, v) else a).1 = (if b.1 = x then (b.1, s) else b).1 ∧ SR K F (if a.1 = x then (a.1, v) else a).2 (if b.1 = x then (b.1, s) else b).2
    by_cases h : a.1 = x
    · have hb : b.1 = x := q.1 ▸ h
      rw [if_pos h, if_pos hb]
      exact ⟨q.1, r⟩
    · have hb : ¬ b.1 = x := q.1 ▸ h
      rw [if_neg h, if_neg hb]
      exact q
theorem kvr_put {vs : List (κ × V)} {kvs : List (κ × SV)} {x : κ} {v : V} {s : SV} (h : KVR K F vs kvs) (r : SR K F v s) : KVR K F (putK vs x v) (putS kvs x s) := by
  unfold putK putS
  rw [kvr_any h]
  split
  · exact kvr_map r h
  · exact papp h (.cons ⟨rfl, r⟩ .nil)
end
theorem keyD_v {F : Hp} {v : V} {x : Key} (r : SR K F v (.dat (keyD x))) : v = kV x := by
  cases x with
  | inl i => exact sr_int r
  | inr z => exact sr_str r
/-- d[k], k there -/
theorem wp_dget (h : Wp K A td S fun A1 s => Wp K A1 ty S fun A2 s2 => ∃ p kvs x v, s = .ptr p ∧ s2 = .dat (keyD x) ∧ (p, .dk kvs) ∈ A2.cells ∧ lookS kvs x = some v ∧ k A2 v) : Wp K A (tDGet td ty) S k := fun R F σ H Q a sd q =>
  h R F σ H _ a sd fun A1 s v F1 H1 h1 e1 a1 r1 => h1 R F1 σ H1 _ a1 (sd.mono e1) fun A2 s2 w F2 H2 ⟨p, kvs, x, z, hs, hs2, hp, hz, hk⟩ e2 a2 r2 => by
    subst hs; subst hs2
    obtain rfl : v = .ref p := r1
    obtain rfl := keyD_v r2
    obtain ⟨vs, h3, h4⟩ := a2.cell hp
    obtain ⟨y, h5, h6⟩ := (kvr_look h4).1 z hz
    exact ⟨p, y, rfl, by rw [← h5]; exact DGet.k h3, q A2 _ _ F2 H2 hk (e1.trans e2) a2 h6⟩
/-- d[k] = v -/
theorem go_dput (h : Wp K A tv S fun A1 s => Wp K A1 td S fun A2 s2 => Wp K A2 ty S fun A3 s3 => ∃ p kvs x l', s2 = .ptr p ∧ s3 = .dat (keyD x) ∧ Upd A3.cells p (.dk kvs) (.dk (putS kvs x s)) l' ∧ kvs.length < sizeLine ∧ E.nx ⟨A3.I, l'⟩ S) : Go K A (sDPut td ty tv) S E := fun R F σ H D a sd o =>
  h R F σ H _ a sd fun A1 s v F1 H1 h1 e1 a1 r1 => h1 R F1 σ H1 _ a1 (sd.mono e1) fun A2 s2 w F2 H2 h2 e2 a2 r2 => h2 R F2 σ H2 _ a2 ((sd.mono e1).mono e2) fun A3 s3 u F3 H3 ⟨p, kvs, x, l', hs, hs2, hu, hl, hk⟩ e3 a3 r3 => by
    subst hs; subst hs2
    obtain rfl : w = .ref p := r2
    obtain rfl := keyD_v r3
    obtain ⟨vs, h3, h4⟩ := a3.cell hu.mem
    exact ⟨p, _, rfl, DPut.k h3 (by rw [h4.length]; exact hl), o.nx _ _ _ _ _ hk ((e1.trans e2).trans e3) (a3.put hu ⟨_, upd_same, kvr_put h4 (r1.mono (e2.trans e3))⟩) (sd.mono ((e1.trans e2).trans e3))⟩

/-! ### defs -/
/-- a def's promise, told by data: W of arguments, what is owned, and what is wanted of the answer -/
def spW (K : PySem.W.Frag) (W : List SV → Amb → KA → Prop) : Sp := fun vs H Q _ => ∃ A R F ss k, AtR K A R F H ∧ SRs K F vs ss ∧ W ss A k ∧ OutV K R F Q k
theorem wp_call {W : List SV → Amb → KA → Prop} {EX : XK} {ta : TA} (h : WpA K A ta S fun A1 ss => W ss A1 k) : Wp K A (tCall (spW K W) [] EX ta) S k := fun R F σ H Q a sd q =>
  h R F σ H _ a sd fun A1 ss vs F1 H1 h1 e1 a1 r1 => by
    show spW K W (vs ++ []) H1 Q EX
    rw [List.append_nil]
    exact ⟨A1, R, F1, ss, k, a1, r1, h1, q.mono e1⟩
theorem wp_callK {W : List SV → Amb → KA → Prop} {EX : XK} {ta tk : TA} {gV : List V → List V → List V} (gS : List SV → List SV → List SV) (hg : ∀ F vs ws ss ts, SRs K F vs ss → SRs K F ws ts → SRs K F (gV vs ws) (gS ss ts))
    (h : WpA K A ta S fun A1 ss => WpA K A1 tk S fun A2 ts => W (gS ss ts) A2 k) : Wp K A (tCallK (spW K W) gV EX ta tk) S k := fun R F σ H Q a sd q =>
  h R F σ H _ a sd fun A1 ss vs F1 H1 h1 e1 a1 r1 => h1 R F1 σ H1 _ a1 (sd.mono e1) fun A2 ts ws F2 H2 h2 e2 a2 r2 => ⟨A2, R, F2, _, k, a2, hg _ _ _ _ _ (SRs.mono e2 r1) r2, h2, q.mono (e1.trans e2)⟩
theorem fn_go {P : Program} {w : World} {mg : Str → Option Value} {base : Heap} {x qual : Str} {st : Stmt} {f : Addr} {fd : FuncData} {N ps : List Str} {n : Nat} {W : List SV → Amb → KA → Prop} (F : Fun K x qual st f fd) (Sc : FnScope N ps (defScope st))
    (len : ∀ ss A k, W ss A k → ss.length = ps.length)
    (hbody : ∀ (cdv : Value) (A : Around) (outer : List Env) (s : Shared) (H : Hp) (E : XK), Room n (A.deeper (PyProof.Rows.envOfC qual (defScope st) s.heap.objs.size f cdv)) →
      ∃ t, PSs (cxOf CX0 P w K mg base N qual (defScope st) f cdv A outer s H E).nox (defBody st) t ∧ ∀ ss A k, W ss A k → Go K A t (ss ++ List.replicate (N.length - ss.length) .no) ⟨fun A1 _ => k A1 (.dat .none), fun _ _ => False, fun _ _ => False, k⟩) :
    FnOk P w K mg base CX0 (n + 1) f fd ps (spW K W) := by
  refine F.ok Sc (fun vs H Q E h => ?_) (fun cdv A outer s H vs Q E hr h => ?_)
  · obtain ⟨B, R, G, ss, k, a, r, hw, q⟩ := h
    rw [r.length]
    exact len ss B k hw
  · obtain ⟨B, R, G, ss, k, a, r, hw, q⟩ := h
    obtain ⟨t, ht, go⟩ := hbody cdv A outer s H E hr
    refine ⟨t, ht, go ss B k hw R G _ H _ a (SD.start N r) ⟨fun A1 S1 F1 σ1 H1 h1 e1 a1 _ => q A1 _ _ F1 H1 h1 e1 a1 .non, fun A1 S1 F1 σ1 H1 h1 => h1.elim, fun A1 S1 F1 σ1 H1 h1 => h1.elim, q⟩⟩

/-! ### blocks -/
theorem paired_hh {F F' H H' : Hp} (e : Same F F') : ∀ {ps : List Addr} {cs : List Cell}, Paired (fun p c => CellAt K F H p c) ps cs → (∀ c ∈ ps, H' c = H c) → Paired (fun p c => CellAt K F' H' p c) ps cs
  | _, _, .nil, _ => .nil
  | _, _, .cons r t, hh => .cons (r.mono e (hh _ List.mem_cons_self)) (paired_hh e t fun c hc => hh c (List.mem_cons_of_mem _ hc))
theorem paired_here {F H : Hp} {c : Addr} : ∀ {ps : List Addr} {cs : List Cell}, Paired (fun p c => CellAt K F H p c) ps cs → c ∈ ps → H c ≠ none
  | _, _, .nil, hm => by simp at hm
  | _, _, .cons r t, hm => by
    rcases List.mem_cons.mp hm with e | hm
    · rw [e]
      exact r.here
    · exact paired_here t hm
def Blk.of (K : PySem.W.Frag) (ps : List Addr) (C : List Cell → Prop) : Blk where
  cs := ps
  G := fun F H => ps.Nodup ∧ ∃ cs, C cs ∧ Paired (fun p c => CellAt K F H p c) ps cs
  ext := fun {F F' H H'} e hh ⟨nd, cs, hc, hp⟩ => ⟨nd, cs, hc, by
    exact paired_hh e hp hh⟩
  here := fun {F H c} ⟨nd, cs, hc, hp⟩ hm => paired_here hp hm
theorem paired_zip {α β : Type} {R : α → β → Prop} : ∀ {as : List α} {bs : List β}, Paired R as bs → ∀ p ∈ as.zip bs, R p.1 p.2
  | _, _, .nil, p, h => by simp at h
  | _, _, .cons h t, p, hp => by
    rw [List.zip_cons_cons] at hp
    rcases List.mem_cons.mp hp with rfl | hp
    · exact h
    · exact paired_zip t p hp
theorem AtR.open {ps : List Addr} {C : List Cell → Prop} {l R : List (Addr × Cell)} {F H : Hp} (a : AtR K ⟨Blk.of K ps C, l⟩ R F H) : ∃ cs, C cs ∧ cs.length = ps.length ∧ AtR K ⟨Blk.nil, ps.zip cs ++ l⟩ R F H := by
  obtain ⟨nd, cs, hc, hp⟩ := a.blk
  refine ⟨cs, hc, hp.length.symm, a.same, trivial, fun c hc => by simp [Blk.nil] at hc, fun p c h => ?_, ?_⟩
  · have h' : (p, c) ∈ ps.zip cs ++ l ++ R := h
    rw [List.append_assoc] at h'
    rcases List.mem_append.mp h' with h1 | h1
    · exact ⟨a.bfree p (List.of_mem_zip h1).1, by simp [Blk.nil], paired_zip hp _ h1⟩
    · obtain ⟨f1, f2, f3⟩ := At.cell a p c h1
      exact ⟨f1, by simp [Blk.nil], f3⟩
  · show ((ps.zip cs ++ l ++ R).map (·.1)).Nodup
    rw [List.append_assoc, List.map_append, List.map_fst_zip (by rw [hp.length]; exact Nat.le_refl _)]
    refine List.nodup_append.mpr ⟨nd, a.nd, fun x hx y hy e => ?_⟩
    obtain ⟨⟨q, c⟩, hq, rfl⟩ := List.mem_map.mp hy
    subst e
    exact (At.cell a _ _ hq).2.1 hx
theorem paired_of_zip {ps : List Addr} {cs : List Cell} {F H : Hp} (hl : ps.length = cs.length) (h : ∀ p ∈ ps.zip cs, CellAt K F H p.1 p.2) : Paired (fun p c => CellAt K F H p c) ps cs := by
  induction ps generalizing cs with
  | nil =>
    cases cs with
    | nil => exact .nil
    | cons c cs => simp at hl
  | cons p ps ih =>
    cases cs with
    | nil => simp at hl
    | cons c cs => exact .cons (h (p, c) (by simp)) (ih (by simpa using hl) fun q hq => h q (by simp [hq]))
theorem AtR.close {ps : List Addr} {C : List Cell → Prop} {cs : List Cell} {l R : List (Addr × Cell)} {F H : Hp} (hc : C cs) (hl : cs.length = ps.length) (a : AtR K ⟨Blk.nil, ps.zip cs ++ l⟩ R F H) : AtR K ⟨Blk.of K ps C, l⟩ R F H := by
  have nd : (ps ++ (l ++ R).map (·.1)).Nodup := by
    have h := a.nd
    have h' : ((ps.zip cs ++ l ++ R).map (·.1)).Nodup := h
    rw [List.append_assoc, List.map_append, List.map_fst_zip (by rw [hl]; exact Nat.le_refl _)] at h'
    exact h'
  obtain ⟨n1, n2, n3⟩ := List.nodup_append.mp nd
  refine ⟨a.same, ⟨n1, cs, hc, paired_of_zip hl.symm fun q hq => (At.cell a q.1 q.2 (List.mem_append_left _ (List.mem_append_left _ hq))).2.2⟩, fun c hcs => ?_, fun p c h => ?_, n2⟩
  · have hcs' : c ∈ ps := hcs
    obtain ⟨i, hi, rfl⟩ := List.getElem_of_mem hcs'
    have hi2 : i < cs.length := by omega
    have hz : (ps[i], cs[i]) ∈ ps.zip cs := by
      refine List.mem_iff_getElem.mpr ⟨i, by rw [List.length_zip]; omega, ?_⟩
      simp
    exact (At.cell a _ _ (List.mem_append_left _ (List.mem_append_left _ hz))).1
  · have h' : (p, c) ∈ l ++ R := h
    have h2 : (p, c) ∈ ps.zip cs ++ l ++ R := by
      rw [List.append_assoc]
      exact List.mem_append_right _ h'
    obtain ⟨f1, _, f3⟩ := At.cell a p c h2
    exact ⟨f1, fun hp => n3 p hp p (List.mem_map.mpr ⟨(p, c), h', rfl⟩) rfl, f3⟩
def closeS (K : PySem.W.Frag) (ps : List Addr) (C : List Cell → Prop) (k : KS) : KS := fun A S => ∃ cs l, A = ⟨Blk.nil, ps.zip cs ++ l⟩ ∧ cs.length = ps.length ∧ C cs ∧ k ⟨Blk.of K ps C, l⟩ S
def closeV (K : PySem.W.Frag) (ps : List Addr) (C : List Cell → Prop) (k : KA) : KA := fun A s => ∃ cs l, A = ⟨Blk.nil, ps.zip cs ++ l⟩ ∧ cs.length = ps.length ∧ C cs ∧ k ⟨Blk.of K ps C, l⟩ s
@[reducible] def DE.close (K : PySem.W.Frag) (ps : List Addr) (C : List Cell → Prop) (E : DE) : DE := ⟨closeS K ps C E.nx, closeS K ps C E.bk, closeS K ps C E.ct, closeV K ps C E.rt⟩
theorem go_open {ps : List Addr} {C : List Cell → Prop} {l : List (Addr × Cell)} (h : ∀ cs, C cs → cs.length = ps.length → Go K ⟨Blk.nil, ps.zip cs ++ l⟩ tu S (E.close K ps C)) : Go K ⟨Blk.of K ps C, l⟩ tu S E := fun R F σ H D a sd o => by
  obtain ⟨cs, hc, hl, a2⟩ := a.open
  refine h cs hc hl R F σ H D a2 sd ⟨fun A1 S1 F1 σ1 H1 ⟨cs1, l1, e1, e2, e3, e4⟩ e5 a5 sd5 => ?_, fun A1 S1 F1 σ1 H1 ⟨cs1, l1, e1, e2, e3, e4⟩ e5 a5 sd5 => ?_, fun A1 S1 F1 σ1 H1 ⟨cs1, l1, e1, e2, e3, e4⟩ e5 a5 sd5 => ?_, fun A1 s1 v1 F1 H1 ⟨cs1, l1, e1, e2, e3, e4⟩ e5 a5 r5 => ?_⟩
  · subst e1
    exact o.nx _ _ _ _ _ e4 e5 (a5.close e3 e2) sd5
  · subst e1
    exact o.bk _ _ _ _ _ e4 e5 (a5.close e3 e2) sd5
  · subst e1
    exact o.ct _ _ _ _ _ e4 e5 (a5.close e3 e2) sd5
  · subst e1
    exact o.rt _ _ _ _ _ e4 e5 (a5.close e3 e2) r5
/-- owned objects become a block -/
theorem go_seal {ps : List Addr} {C : List Cell → Prop} {cs : List Cell} {l : List (Addr × Cell)} (hc : C cs) (hl : cs.length = ps.length) (h : Go K ⟨Blk.of K ps C, l⟩ tu S E) : Go K ⟨Blk.nil, ps.zip cs ++ l⟩ tu S E := fun R F σ H D a sd o => h R F σ H D (a.close hc hl) sd o
end
end DL

/-! The data layer: the law's own def, called at the top, where nothing is being shown (so repr may be told); repr, isinstance. -/
namespace DL
open PySem L2

/-! ### repr, isinstance -/
def rReprD (K : PySem.W.Frag) : List V → Hp → VK → Prop := fun vs H Q => ∃ (v : V) (d : PyData), vs = [v] ∧ Dt K H v d ∧ d.showable = true ∧ (d.hasDict = true → noLst d = true) ∧ d.depth ≤ 60 ∧ d.shown.length ≤ sizeLine ∧ Q (.str d.shown) H
section
variable {X : Cx}
theorem sysNone {pins : List (Addr × Obj)} {σ : St} {H : Hp} {s : Shared} (I : Inv X pins σ H s) {o : Obj} (h : X.K.lookup sysModules = some o) : H sysModules = none := (I.bs _ _ (I.mod.kin _ _ h)).2
theorem cr_reprD (hu : X.A.units + 65 < cLine) (hg : X.A.guards = some []) : CallR X (.builtin "repr") (rReprD X.K) := by
  intro pins s σ H vs us Q I r h
  obtain ⟨v, d, rfl, hd, hs, hn, hdep, hz, q⟩ := h
  cases r with
  | cons r1 r2 =>
    cases r2
    rename_i u
    obtain ⟨as, hr, hns⟩ := Dt.reads I hd r1
    cases hr with
    | none => exact PySem.P.repr_of_none ⟨.str "None", H, I.tok _, ⟨_, rfl⟩, q⟩
    | bool b => exact PySem.P.repr_of_bool ⟨.str (if b then "True" else "False"), H, I.tok _, ⟨_, rfl⟩, q⟩
    | int i t => exact PySem.P.repr_of_int (by simpa [PyData.showable] using hs) ⟨.str (toString i), H, I.tok _, ⟨_, rfl⟩, q⟩
    | str x t => exact PySem.P.repr_of_str ⟨.str (reprText x), H, I.tok _, ⟨_, rfl⟩, q⟩ hz
    | list h1 h2 h3 h4 => exact repr_of_reads' (.list h1 h2 h3 h4) hs (fun z => hns (.inr (hn z))) hg (by omega) (fun _ _ e => e) (fun h' u tk hk => ⟨.str _, H, I.kept hk, ⟨u, rfl⟩, q⟩) hz
    | tuple h1 h2 h3 h4 => exact repr_of_reads' (.tuple h1 h2 h3 h4) hs (fun z => hns (.inr (hn z))) hg (by omega) (fun _ _ e => e) (fun h' u tk hk => ⟨.str _, H, I.kept hk, ⟨u, rfl⟩, q⟩) hz
    | dict h1 h2 h3 h4 h5 => exact repr_of_reads' (.dict h1 h2 h3 h4 h5) hs (fun z => hns (.inr (hn z))) hg (by omega) (fun _ _ e => e) (fun h' u tk hk => ⟨.str _, H, I.kept hk, ⟨u, rfl⟩, q⟩) hz
def isK (T : String) (d : PyData) : Bool := match T with
  | "list" => d.isList
  | "tuple" => d.isTuple
  | "str" => d.isStr
  | "int" => d.isInt
  | "bool" => d.isBool
  | "dict" => d.isDict
  | _ => false
def kinds : List String := ["list", "tuple", "str", "int", "bool", "dict"]
def rIsiD (K : PySem.W.Frag) : List V → Hp → VK → Prop := fun vs H Q => ∃ (x : V) (T : String) (d : PyData), vs = [x, .ty T] ∧ T ∈ kinds ∧ Dt K H x d ∧ Q (.bl (isK T d)) H
theorem call_isiD : CallR X (.builtin "isinstance") (rIsiD X.K) := by
  intro pins s σ H vs us Q I r h
  obtain ⟨x, T, d, rfl, hT, hd, q⟩ := h
  cases r with
  | cons r1 r2 =>
    cases r2 with
    | cons r3 r4 =>
      cases r4
      rename_i u1 u2
      obtain rfl : u2 = Value.type T := r3
      obtain ⟨as, hr, _⟩ := Dt.reads I hd r1
      simp only [kinds, List.mem_cons, List.not_mem_nil, or_false] at hT
      rcases hT with rfl | rfl | rfl | rfl | rfl | rfl
      · exact PySem.W.isinstance_list_data hr fun tk _ => ⟨.bl d.isList, H, I.tok tk, rfl, q⟩
      · exact PySem.W.isinstance_tuple_data hr fun tk _ => ⟨.bl d.isTuple, H, I.tok tk, rfl, q⟩
      · exact PySem.W.isinstance_str_data hr fun tk _ => ⟨.bl d.isStr, H, I.tok tk, rfl, q⟩
      · exact PySem.W.isinstance_int_data hr fun tk _ => ⟨.bl d.isInt, H, I.tok tk, rfl, q⟩
      · exact PySem.W.isinstance_bool_data hr fun tk _ => ⟨.bl d.isBool, H, I.tok tk, rfl, q⟩
      · exact PySem.W.isinstance_dict_data hr fun tk _ => ⟨.bl d.isDict, H, I.tok tk, rfl, q⟩
end
section
variable {K : PySem.W.Frag} {A A' : Amb} {S S' : List SV} {k k' : KA} {ta tb te td ty tv : TE} {t u : TT} {s s1 s2 : SV} {E : DE} {tu tw : TS}
theorem wp_isi {T : String} (hT : T ∈ kinds) (h : Wp K A ta S fun A1 s => ∃ d, s = .dat d ∧ k A1 (.dat (.bool (isK T d)))) : Wp K A (tCB (rIsiD K) (tCons ta (tCons (tC (.ty T)) tNil))) S k := fun R F σ H Q a sd q =>
  h R F σ H _ a sd fun A1 s v F1 H1 ⟨d, hs, hk⟩ e1 a1 r1 => by
    subst hs
    exact ⟨v, T, d, rfl, hT, Dt.mono a1.same r1, q A1 _ _ F1 H1 hk e1 a1 (.bl _)⟩
/-- isinstance of an owned list -/
theorem wp_isiP {T : String} (hT : T ∈ kinds) (h : Wp K A ta S fun A1 s => ∃ p ds, s = .ptr p ∧ (p, .lst (ds.map .dat)) ∈ A1.cells ∧ k A1 (.dat (.bool (isK T (.list ds))))) : Wp K A (tCB (rIsiD K) (tCons ta (tCons (tC (.ty T)) tNil))) S k := fun R F σ H Q a sd q =>
  h R F σ H _ a sd fun A1 s v F1 H1 ⟨p, ds, hs, hp, hk⟩ e1 a1 r1 => by
    subst hs
    obtain rfl : v = .ref p := r1
    exact ⟨_, T, .list ds, rfl, hT, a1.cellP hp, q A1 _ _ F1 H1 hk e1 a1 (.bl _)⟩
theorem nd_sys {d : PyData} {P : Prop} (hn : d.hasDict = false) : d.hasDict = true → P := fun h => by rw [hn] at h; cases h
theorem cw_reprD {d : PyData} (hs : d.showable = true) (hn : d.hasDict = false) (hd : d.depth ≤ 60) (hz : d.shown.length ≤ sizeLine) (h : k A (.dat (.str d.shown))) : CW K (rReprD K) [.dat d] A k := fun R F H vs Q a r q => by
  obtain ⟨v, rfl, r1⟩ := one_of r
  exact ⟨v, d, rfl, Dt.mono a.same r1, hs, nd_sys hn, hd, hz, q A _ _ F H h (Same.refl F) a (.str _)⟩
theorem cw_reprP {p : Addr} {ds : List PyData} (hp : (p, .lst (ds.map .dat)) ∈ A.cells) (hs : (PyData.list ds).showable = true) (hn : (PyData.list ds).hasDict = false) (hd : (PyData.list ds).depth ≤ 60) (hz : (PyData.list ds).shown.length ≤ sizeLine) (h : k A (.dat (.str (PyData.list ds).shown))) : CW K (rReprD K) [.ptr p] A k := fun R F H vs Q a r q => by
  obtain ⟨v, rfl, r1⟩ := one_of r
  obtain rfl : v = .ref p := r1
  exact ⟨_, _, rfl, a.cellP hp, hs, nd_sys hn, hd, hz, q A _ _ F H h (Same.refl F) a (.str _)⟩
end

/-! ### the law at the top -/
section
variable {P : Program} {w : World} {K : PySem.W.Frag} {mg mb : Str → Option Value} {fa a : Addr} {fd : FuncData} {x qual : Str} {st : Stmt} {N : List Str} {n : Nat} {s1 : Shared} {vs : List Value} {ns : List Int}
/-- what the law's body is to reach -/
abbrev TopE : DE := ⟨fun _ _ => False, fun _ _ => False, fun _ _ => False, fun _ s => s = .dat (.bool true)⟩
/-- the body of the law's def is a term whose reading goes, whatever the script -/
def LawGo (P : Program) (w : World) (K : PySem.W.Frag) (mg : Str → Option Value) (fa : Addr) (qual : Str) (st : Stmt) (N : List Str) (n m : Nat) : Prop :=
  ∀ (base : Heap) (cdv : Value) (s : Shared) (H : Hp), Room n (callerA.deeper (PyProof.Rows.envOfC qual (defScope st) s.heap.objs.size fa cdv)) →
    ∃ t, PSs (cxOf CX0 P w K mg base N qual (defScope st) fa cdv callerA [] s H E0).nox (defBody st) t ∧
      ∀ ns : List Int, ns.length ≤ m → (∀ z ∈ ns, Builtin.Int.intBits z ≤ 1048576) → Go K ⟨Blk.nil, []⟩ t (.scr ns :: List.replicate (N.length - 1) .no) TopE
theorem at_nil {H : Hp} : At K ⟨Blk.nil, []⟩ H H := ⟨Same.refl H, trivial, fun c hc => by simp [Blk.nil] at hc, fun p c h => by simp at h, List.nodup_nil⟩
/-- from a heap that knows of nothing but the script -/
theorem law_at {H : Hp} {m : Nat} (F : Fun K x qual st fa fd) (Sc : FnScope N ["script"] (defScope st)) (hb : ∀ (s : Shared) (u : Value), BindsTo s fd ⟨[u], []⟩ [("script", u)]) (hr : Room (n + 1) callerA) (L : LawGo P w K mg fa qual st N n m)
    (hl : ns.length ≤ m) (hbits : ∀ z ∈ ns, Builtin.Int.intBits z ≤ 1048576) {base : Heap} (e0 : Env0 P w K mg base callerA [] s1 H) (hS : SqL K H a (ns.map V.int)) :
    codeAny (model P w) callerA (.call (.ref fa) ⟨[.ref a], []⟩) (CR CX0 [] P w H s1 (fun v _ => v = .bl true) E0) s1 := by
  obtain ⟨oc, od, kV, doc, pm, an, cdv, ct, osl, rfl, lk, hcd⟩ := F.ex
  have KX : K.In s1.heap := e0.mod.kin.keeps fun b o e => (e0.bs b o e).1
  have lim : s1.heap.NoLimit := e0.mod.nolimit.keeps fun b o e => (e0.bs b o e).1
  have hk : ∀ y ∈ ([Str.ofString "script"] : List Str).zip [Value.ref a], (defScope st).names.lookup y.1 = some .local ∨ ((defScope st).names.lookup y.1 = some .cell ∧ ((PySem.cellsFrom (s1.heap.objs.size + 1) (defScope st).names []).lookup y.1).isSome = true) := by
    rintro ⟨z, u⟩ hy
    cases Sc.par z (List.of_mem_zip hy).1 with
    | inl q => exact .inl q
    | inr q => exact .inr ⟨q, PySem.W.cellsFrom_some _ _ _ (.inl q)⟩
  refine codeAny_call_function hr.depth (KX _ _ lk) rfl Sc.co Sc.gen rfl (PySem.W.codeRec_of KX hcd) (hb _ _ _ _ _ _ ?_)
  refine wpAny_newFunctionEnv_cells Sc.kind hk fun fr he s2 z => ?_
  subst he
  refine ⟨lim.keeps z.toInCall.keep, codeAny_func ?_⟩
  obtain ⟨t, ht, go⟩ := L base cdv s1 H (hr.deeper _)
  have hq : t { nx := fun _ H' => (fun v _ => v = V.bl true) V.non H', rt := fun v _ => v = .bl true } (L2.start N [.ref a]) H := by
    have sd : SD K H (L2.start N [.ref a]) (.scr ns :: List.replicate (N.length - 1) .no) := SD.start N (ss := [.scr ns]) (.cons ⟨a, rfl, hS⟩ .nil)
    exact go ns hl hbits [] H _ H _ at_nil sd ⟨fun _ _ _ _ _ h => h.elim, fun _ _ _ _ _ h => h.elim, fun _ _ _ _ _ h => h.elim, fun A s v F' H' h _ _ r => by
      have h' : s = .dat (.bool true) := h
      subst h'
      exact sr_bl r⟩
  have J : Inv (cxOf CX0 P w K mg base N qual (defScope st) fa cdv callerA [] s1 H E0) [] (L2.start N [.ref a]) H s2 := inv_start Sc hr.hd e0 rfl (.cons rfl .nil) z
  refine wpAny_mono (ht.nox.run [] s2 _ H _ J hq) (fun fl s' hs => ?_) fun e s' hs => hs
  cases fl with
  | ret u =>
    obtain ⟨v, σ', H', I', rv, q⟩ := hs
    exact ⟨v, H', I'.os, I'.bare, I'.base, I'.hok, rv, q⟩
  | next =>
    obtain ⟨σ', H', I', q⟩ := hs
    cases q
  | brk =>
    obtain ⟨_, _, _, q⟩ := hs
    exact q.elim
  | cont =>
    obtain ⟨_, _, _, q⟩ := hs
    exact q.elim
theorem env_at {H : Hp} (KX : K.In s1.heap) (hns : s1.heap.Ns mainGlobals mg) (hb : s1.heap.Ns builtinsNs mb) (hbb : ∀ x : Str, x ≠ "__name__" → mb x = bootBuiltins x) (hlim : s1.heap.NoLimit) (hg : s1.gens = #[])
    (ha : s1.heap.get? a = some { cls := .type "list", data := .seq vs.toArray }) (hok : HOk P w H s1.heap) (hA : ∀ b, H b ≠ none → b = a) (hK : H a ≠ none → K.lookup a = none) : Env0 P w K mg (hidT s1.heap H) callerA [] s1 H := by
  have dictFree : ∀ {b : Addr} {o : Obj} {es : Array DictEntry} {ep : Nat}, s1.heap.get? b = some o → o.data = .dict es ep → H b = none := by
    intro b o es ep e d
    cases q : H b with
    | none => rfl
    | some u =>
      have e' : b = a := hA b (by rw [q]; exact Option.some_ne_none u)
      rw [e', ha] at e
      rw [← Option.some.inj e] at d
      cases d
  have nsH : ∀ {b : Addr} {m : Str → Option Value}, s1.heap.Ns b m → (hidT s1.heap H).Ns b m := by
    rintro b m ⟨o, es, ep, e, d, r⟩
    exact ⟨o, es, ep, hidT_get e (dictFree e d), d, r⟩
  have kin : K.In (hidT s1.heap H) := by
    intro b o e
    refine hidT_get (KX b o e) ?_
    cases q : H b with
    | none => rfl
    | some u =>
      have e' : b = a := hA b (by rw [q]; exact Option.some_ne_none u)
      rw [e'] at e q
      rw [hK (by rw [q]; exact Option.some_ne_none u)] at e
      cases e
  refine ⟨rfl, ⟨kin, nsH hns, ⟨mb, nsH hb, hbb⟩, ?_⟩, fun b o e => of_hidT e, Nat.le_of_eq (hidT_size _ _), trivial, fun b hb => ?_, hok, .of_eq hg⟩
  · obtain ⟨mc, h1, h2⟩ := hlim
    exact ⟨mc, nsH h1, h2⟩
  · exact absurd (show b ∈ ([] : List Addr) from hb) (by simp)
end
theorem walk_top {l : PySem.W.OpenLaw} {n m : Nat} {q : Program} {loose : List Str} {XP : (Str → Option Value) → Heap → Prop} {YP : World → Heap → Prop} {d : DefRec} {K : Params → PySem.W.Frag}
    (hn : l.most = some m) (hn2 : m ≤ sizeLine) (hdf : d.params.defaults = []) (hr : Room (n + 1) callerA) (hY : ∀ (w : World) (h : Heap), YP w h → (K w.params).In h)
    (F : ∀ (w : World) (mg : Str → Option Value) (fa : Addr) (h : Heap), (K w.params).In h → h.Ns mainGlobals mg → mg d.name = some (.ref fa) → ∃ (x qual : Str) (st : Stmt) (fd : FuncData) (N : List Str),
      Fun (K w.params) x qual st fa fd ∧ FnScope N ["script"] (defScope st) ∧ (∀ (s : Shared) (u : Value), BindsTo s fd ⟨[u], []⟩ [("script", u)]) ∧ LawGo l.prog w (K w.params) mg fa qual st N n m) :
    PySem.W.WalkO q loose XP YP l.row.toRowW d [] (fun f vs => PySem.call f vs) := by
  refine Att.attach_callB hn hdf fun w s₀ s₁ mg mb fa o pm cd doc a vs ns G Y ho hd hcd hmg hobj hints hlen hbits hg => ?_
  have KX := hY w _ Y
  obtain ⟨x, qual, st, fd, N, f1, f2, f3, f4⟩ := F w mg fa _ KX G.T.g hmg
  have rv := vals_ints hints
  have hz : ns.length ≤ sizeLine := Nat.le_trans hlen hn2
  have fin : ∀ H : Hp, Only H → SqL (K w.params) H a (ns.map V.int) → HOk l.prog w H s₁.heap → (∀ b, H b ≠ none → b = a) → (H a ≠ none → (K w.params).lookup a = none) →
      codeAny (model l.prog w) callerA (.call (.ref fa) ⟨[.ref a], []⟩) (fun r s' => r = .ok (.ret (.bool true)) ∧ OldK s₁.heap s'.heap ∧ s'.os = s₁.os ∧ PyProof.Rows.AllBare s'.gens) s₁ := by
    intro H hO hS hok hA hK
    refine codeAny_mono (law_at f1 f2 f3 hr f4 hlen hbits (env_at KX G.T.g G.T.b G.T.builtins G.T.nolimit hg hobj hok hA hK) hS) fun r s' hq => ?_
    cases r with
    | error e => exact False.elim hq
    | ok fl =>
      cases fl with
      | next => exact False.elim hq
      | brk => exact False.elim hq
      | cont => exact False.elim hq
      | ret u =>
        obtain ⟨v, H', os, bare, un, hok', r', e⟩ := hq
        have e' : v = .bl true := e
        rw [e'] at r'
        have r2 : u = Value.bool true := r'
        rw [r2]
        refine ⟨rfl, OldK.of_keep fun b ob eb => ?_, os, bare⟩
        rcases hO b with z | ⟨oz, xs, z⟩
        · exact un.keep b ob eb z (by simp [frs]) (by simp)
        · have t1 := (hok b _ z).1
          have t2 := (hok' b _ (un.frzs b oz _ z)).1
          rw [eb] at t1
          rw [Option.some.inj t1]
          exact t2
  cases hk : (K w.params).lookup a with
  | some ob =>
    have e := KX a ob hk
    rw [hobj] at e
    rw [← Option.some.inj e] at hk
    refine fin (fun _ => none) (fun _ => .inl rfl) (.inr ⟨_, vs.toArray, _, hk, rfl, rfl, rfl, ?_, ?_⟩) (fun b u z => by cases z) (fun b z => absurd rfl z) fun z => absurd rfl z
    · rw [List.size_toArray, hints.length]
      exact hz
    · exact rv
  | none =>
    have one : ∀ {b : Addr} {u : HO}, (if b = a then some (HO.frz { cls := .type "list", data := .seq vs.toArray } (.lst (ns.map V.int))) else none) = some u → b = a ∧ u = HO.frz { cls := .type "list", data := .seq vs.toArray } (.lst (ns.map V.int)) := by
      intro b u z
      by_cases hb : b = a
      · rw [if_pos hb] at z
        exact ⟨hb, (Option.some.inj z).symm⟩
      · rw [if_neg hb] at z
        cases z
    refine fin (fun b => if b = a then some (HO.frz { cls := .type "list", data := .seq vs.toArray } (.lst (ns.map V.int))) else none) (fun b => ?_) (.inl (.inr ⟨_, if_pos rfl⟩)) (fun b u z => ?_) (fun b z => ?_) fun _ => hk
    · by_cases hb : b = a
      · exact .inr ⟨_, _, if_pos hb⟩
      · exact .inl (if_neg hb)
    · obtain ⟨e1, e2⟩ := one z
      subst e2
      subst e1
      exact ⟨hobj, by rw [List.length_map]; exact hz, vs, _, rv, hobj⟩
    · by_cases hb : b = a
      · exact hb
      · exact absurd (if_neg hb) z
end DL

/-! The data layer: comprehensions with two for. -/
namespace DL
open PySem L2
section
variable {K : PySem.W.Frag} {A A' : Amb} {S S' : List SV} {ta tb te tl : TE} {t u tt tt1 : TT} {s s1 s2 : SV} {E : DE} {tu tw : TS} {g g1 : TG} {wi wi1 : TI} {vs vs1 : List Nat} {k : KA}
theorem to_wipe (to : TOnly g vs) {x : V} {σ : St} {H : Hp} {Q : St → Hp → Prop} (h : g x (L2.wipe σ vs) H Q) : g x (L2.wipe σ vs) H fun σ2 H2 => L2.wipe σ2 vs = L2.wipe σ vs ∧ Q σ2 H2 := by
  have h2 := to x (L2.wipe σ vs) H _ h
  rw [wipe_idem] at h2
  exact h2
/-- the inner for, from what is made so far -/
def Lc2In (K : PySem.W.Frag) (wi1 : TI) (g1 : TG) (tt1 : TT) (te : TE) (S : List SV) (vs1 : List Nat) (A : Amb) (acc : List SV) (J' : KS) : Prop :=
  IW K A wi1 S fun A5 ys => ∃ J1 : Nat → KS, J1 0 A5 acc ∧ (∀ j s1, ys[j]? = some s1 → LcStep K g1 tt1 te S vs1 (J1 j) (J1 (j + 1)) s1) ∧ ∀ A6 acc1, J1 ys.length A6 acc1 → J' A6 acc1
theorem wp_lc2O (to : TOnly g vs) (to1 : TOnly g1 vs1) (h : IW K A wi S fun A1 xs => ∃ J : Nat → KS, J 0 A1 [] ∧ (∀ i s, xs[i]? = some s → ∀ A2 acc, J i A2 acc → GW K g s (wipeS S vs) A2 fun A3 S3 => WpT K A3 tt S3 fun A4 b =>
      (b = true → Lc2In K wi1 g1 tt1 te S3 vs1 A4 acc (J (i + 1))) ∧ (b = false → J (i + 1) A4 acc)) ∧ ∀ A2 acc, J xs.length A2 acc → ∀ p, k (A2.add p (.lst acc)) (.ptr p)) : Wp K A (tLc2 wi g tt wi1 g1 tt1 te vs vs1) S k := fun R F σ H Q a sd q => by
  refine h R F σ H _ a sd fun A1 xs F1 H1 J ⟨Jd, j0, js, je⟩ e1 a1 src p hp => ?_
  refine ⟨fun i m H' => m = xs.length - i ∧ i ≤ xs.length ∧ ∃ A2 acc F2, Jd i A2 acc ∧ Same F1 F2 ∧ AtR K A2 ((p, .lst acc) :: R) F2 H', ⟨_, rfl, Nat.zero_le _, A1, [], F1, j0, Same.refl F1, (a1.new (o := .lst []) (c := .lst []) hp ⟨[], upd_same, .nil⟩).back⟩, ?_⟩
  rintro i m H2 ⟨rfl, hi, A2, acc, F2, hj, e2, a2⟩
  by_cases hlt : i < xs.length
  · obtain ⟨hg, hy⟩ := (src _ F2 H2 i e2 a2).2 xs[i] (List.getElem?_eq_getElem hlt)
    refine .inr ⟨hg, fun H' => ∃ A3 acc3 F3, Jd (i + 1) A3 acc3 ∧ Same F2 F3 ∧ AtR K A3 ((p, .lst acc3) :: R) F3 H', fun H' ⟨A3, acc3, F3, h3, e3, a3⟩ => ⟨xs.length - (i + 1), by omega, rfl, hlt, A3, acc3, F3, h3, e2.trans e3, a3⟩, fun x H' y => ?_⟩
    obtain ⟨F3, e3, a3, r3⟩ := hy x H' y
    have sd3 := ((sd.mono e1).mono (e2.trans e3)).wipe vs
    refine to_wipe to ?_
    refine js i _ (List.getElem?_eq_getElem hlt) A2 acc hj ((p, .lst acc) :: R) F3 (L2.wipe σ vs) H' x _ a3 sd3 r3 ?_
    intro A4 S4 F4 σ4 H4 h4 e4 a4 sd4
    refine h4 _ F4 σ4 H4 _ a4 sd4 fun A5 b F5 H5 h5 e5 a5 => ?_
    cases b with
    | false => exact ⟨A5, acc, F5, h5.2 rfl, (e3.trans e4).trans e5, a5⟩
    | true =>
      have e25 : Same F2 F5 := (e3.trans e4).trans e5
      refine h5.1 rfl _ F5 σ4 H5 _ a5 (sd4.mono e5) fun A6 ys F6 H6 J1 ⟨Jd1, k0, ks, ke⟩ e6 a6 src1 => ?_
      refine ⟨fun j m H' => m = ys.length - j ∧ j ≤ ys.length ∧ ∃ A7 acc7 F7, Jd1 j A7 acc7 ∧ Same F6 F7 ∧ AtR K A7 ((p, .lst acc7) :: R) F7 H', ⟨_, rfl, Nat.zero_le _, A6, acc, F6, k0, Same.refl F6, a6⟩, ?_⟩
      rintro j m H7 ⟨rfl, hj', A7, acc7, F7, hj7, e7, a7⟩
      by_cases hlt1 : j < ys.length
      · obtain ⟨hg1, hy1⟩ := (src1 _ F7 H7 j e7 a7).2 ys[j] (List.getElem?_eq_getElem hlt1)
        refine .inr ⟨hg1, fun H' => ∃ A8 acc8 F8, Jd1 (j + 1) A8 acc8 ∧ Same F7 F8 ∧ AtR K A8 ((p, .lst acc8) :: R) F8 H', fun H' ⟨A8, acc8, F8, h8, e8, a8⟩ => ⟨ys.length - (j + 1), by omega, rfl, hlt1, A8, acc8, F8, h8, e7.trans e8, a8⟩, fun x1 H' y1 => ?_⟩
        obtain ⟨F8, e8, a8, r8⟩ := hy1 x1 H' y1
        have sd8 := ((((sd4.mono e5).mono e6).mono e7).mono e8).wipe vs1
        refine to_wipe to1 ?_
        refine ks j _ (List.getElem?_eq_getElem hlt1) A7 acc7 hj7 ((p, .lst acc7) :: R) F8 (L2.wipe σ4 vs1) H' x1 _ a8 sd8 r8 ?_
        intro A9 S9 F9 σ9 H9 h9 e9 a9 sd9
        refine h9 _ F9 σ9 H9 _ a9 sd9 fun A10 b F10 H10 h10 e10 a10 => ?_
        cases b with
        | false => exact ⟨A10, acc7, F10, h10.2 rfl, (e8.trans e9).trans e10, a10⟩
        | true =>
          refine h10.1 rfl _ F10 σ9 H10 _ a10 (sd9.mono e10) fun A11 s11 v11 F11 H11 ⟨hl, h11⟩ e11 a11 r11 => ?_
          obtain ⟨_, _, us, f3, f4⟩ := At.cell a11 p (.lst acc7) (List.mem_append_right _ List.mem_cons_self)
          refine ⟨us, f3, by rw [f4.length]; exact hl, A11, _, F11, h11, ((e8.trans e9).trans e10).trans e11, ?_⟩
          have a12 := (a11.front).put (o := .lst (us ++ [v11])) (c' := .lst (acc7 ++ [s11])) .head ⟨_, upd_same, papp f4 (.cons r11 .nil)⟩
          exact a12.back
      · have ej : j = ys.length := by omega
        subst ej
        exact .inl ⟨(src1 _ F7 H7 ys.length e7 a7).1 (Nat.le_refl _), A7, acc7, F7, ke A7 acc7 hj7, (e25.trans e6).trans e7, a7⟩
  · have ei : i = xs.length := by omega
    subst ei
    refine .inl ⟨(src _ F2 H2 xs.length e2 a2).1 (Nat.le_refl _), ?_⟩
    exact q _ _ _ F2 H2 (je A2 acc hj p) (e1.trans e2) a2.front rfl
theorem IW.imp {k k' : KS} (h : IW K A wi S k) (i : ∀ A s, k A s → k' A s) : IW K A wi S k' := fun R F σ H Q a sd q => h R F σ H Q a sd fun A1 xs F1 H1 J hk => q A1 xs F1 H1 J (i _ _ hk)
theorem GW.imp {k k' : KS} (h : GW K g s S A k) (i : ∀ A s, k A s → k' A s) : GW K g s S A k' := fun R F σ H v Q a sd r q => h R F σ H v Q a sd r fun A1 S1 F1 σ1 H1 hk => q A1 S1 F1 σ1 H1 (i _ _ hk)
theorem WpA.imp {ta : TA} {k k' : KS} (h : WpA K A ta S k) (i : ∀ A s, k A s → k' A s) : WpA K A ta S k' := fun R F σ H Q a sd q => h R F σ H Q a sd fun A1 xs F1 H1 J hk => q A1 xs F1 H1 J (i _ _ hk)
/-- steps that leave what is owned: a comprehension's for, from acc on -/
theorem lc_pure {acc : List SV} {f : SV → Option PyData} {xs : List SV} (hl : acc.length + xs.length ≤ sizeLine)
    (hs : ∀ (i : Nat) (s : SV), xs[i]? = some s → GW K g s (wipeS S vs) A fun A3 S3 => WpT K A3 tt S3 fun A4 b => (b = true → Wp K A4 te S3 fun A5 s5 => A5 = A ∧ ∃ d, s5 = .dat d ∧ f s = some d) ∧ (b = false → A4 = A ∧ f s = none)) :
    ∃ J : Nat → KS, J 0 A acc ∧ (∀ i s, xs[i]? = some s → LcStep K g tt te S vs (J i) (J (i + 1)) s) ∧ ∀ A2 acc2, J xs.length A2 acc2 → A2 = A ∧ acc2 = acc ++ (xs.filterMap f).map .dat := by
  refine ⟨fun i A2 acc2 => A2 = A ∧ i ≤ xs.length ∧ acc2 = acc ++ ((xs.take i).filterMap f).map .dat, ⟨rfl, Nat.zero_le _, by simp⟩, fun i s hi A2 acc2 ⟨e1, e0, e2⟩ => ?_, fun A2 acc2 ⟨e1, e0, e2⟩ => ⟨e1, by rw [e2, List.take_length]⟩⟩
  subst e1; subst e2
  have hlt := (List.getElem?_eq_some_iff.mp hi).1
  have ht : xs.take (i + 1) = xs.take i ++ [s] := by rw [List.take_add_one, hi]; rfl
  refine (hs i s hi).imp fun A3 S3 h3 => h3.imp fun A4 b ⟨h4, h5⟩ => ⟨fun hb => (h4 hb).imp fun A5 s5 ⟨e5, d, e6, e7⟩ => ?_, fun hb => ?_⟩
  · subst e5; subst e6
    refine ⟨?_, rfl, hlt, by rw [ht, List.filterMap_append, List.map_append, List.append_assoc]; simp [e7]⟩
    have h1 := List.length_filterMap_le f (xs.take i)
    have h2 : (xs.take i).length = i := by rw [List.length_take]; omega
    rw [List.length_append, List.length_map]
    omega
  · obtain ⟨e5, e6⟩ := h5 hb
    subst e5
    exact ⟨rfl, hlt, by rw [ht, List.filterMap_append]; simp [e6]⟩
theorem take_flat {α β : Type} (f : α → List β) (xs : List α) (i : Nat) : ((xs.take i).flatMap f).length ≤ (xs.flatMap f).length := by
  have h : xs.flatMap f = (xs.take i).flatMap f ++ (xs.drop i).flatMap f := by rw [← List.flatMap_append, List.take_append_drop]
  rw [h, List.length_append]
  omega
/-- two for, all steps leaving what is owned: ys: what the inner one walks; F: what it makes of all -/
theorem wp_lc2P (to : TOnly g vs) (to1 : TOnly g1 vs1) (h : IW K A wi S fun A1 (xs : List SV) => ∃ (Y : SV → List SV) (f : SV → SV → Option PyData), (∀ i (s : SV), xs[i]? = some s → ((xs.take i).flatMap fun s => (Y s).filterMap (f s)).length + (Y s).length ≤ sizeLine) ∧
    (∀ (i : Nat) (s : SV), xs[i]? = some s → GW K g s (wipeS S vs) A1 fun A3 S3 => WpT K A3 tt S3 fun A4 b => b = true ∧ IW K A4 wi1 S3 fun A5 ys => A5 = A1 ∧ ys = Y s ∧
      ∀ (j : Nat) (s1 : SV), (Y s)[j]? = some s1 → GW K g1 s1 (wipeS S3 vs1) A1 fun A6 S6 => WpT K A6 tt1 S6 fun A7 b => (b = true → Wp K A7 te S6 fun A8 s8 => A8 = A1 ∧ ∃ d, s8 = .dat d ∧ f s s1 = some d) ∧ (b = false → A7 = A1 ∧ f s s1 = none)) ∧
    ∀ p, k (A1.add p (.lst ((xs.flatMap fun s => (Y s).filterMap (f s)).map .dat))) (.ptr p)) : Wp K A (tLc2 wi g tt wi1 g1 tt1 te vs vs1) S k :=
  wp_lc2O to to1 <| IW.imp h fun A1 xs ⟨Y, f, hl, hs, hk⟩ => by
    refine ⟨fun i A2 acc => A2 = A1 ∧ i ≤ xs.length ∧ acc = ((xs.take i).flatMap fun s => (Y s).filterMap (f s)).map .dat, ⟨rfl, Nat.zero_le _, rfl⟩, fun i s hi A2 acc ⟨e1, e0, e2⟩ => ?_, fun A2 acc ⟨e1, e0, e2⟩ p => ?_⟩
    · subst e1; subst e2
      have hlt := (List.getElem?_eq_some_iff.mp hi).1
      have ht : xs.take (i + 1) = xs.take i ++ [s] := by rw [List.take_add_one, hi]; rfl
      refine (hs i s hi).imp fun A3 S3 h3 => h3.imp fun A4 b ⟨hb, h4⟩ => ⟨fun _ => h4.imp fun A5 ys ⟨e5, e6, h6⟩ => ?_, fun z => by rw [hb] at z; cases z⟩
      subst e5; subst e6
      obtain ⟨J, j0, js, je⟩ := lc_pure (acc := ((xs.take i).flatMap fun s => (Y s).filterMap (f s)).map .dat) (by rw [List.length_map]; exact hl i s hi) h6
      refine ⟨J, j0, js, fun A6 acc6 hj => ?_⟩
      obtain ⟨e7, e8⟩ := je A6 acc6 hj
      refine ⟨e7, hlt, ?_⟩
      rw [e8, ht, List.flatMap_append, List.map_append]
      simp
    · subst e1; subst e2
      rw [List.take_length]
      exact hk p
end
end DL

/-! The data layer: dict displays, chains, is None, named short rules; facts about data. -/
namespace DL
open PySem L2
section
variable {K : PySem.W.Frag} {A A' : Amb} {S S' : List SV} {ta tb tc te tl : TE} {t u tt tt1 : TT} {s s1 s2 : SV} {E : DE} {tu tw : TS} {g g1 : TG} {wi wi1 : TI} {vs vs1 : List Nat} {k : KA} {r r' : R2}
/-! ### displays of dicts -/
def WpP (K : PySem.W.Frag) : List (TE × TE) → Amb → List SV → (Amb → List (SV × SV) → Prop) → Prop
  | [], A, _, k => k A []
  | (tk, tv) :: r, A, S, k => Wp K A tk S fun A1 s1 => Wp K A1 tv S fun A2 s2 => WpP K r A2 S fun A3 ps => k A3 ((s1, s2) :: ps)
theorem wpp_run : ∀ {trs : List (TE × TE)} {A : Amb} {S : List SV} {k : Amb → List (SV × SV) → Prop} {R : List (Addr × Cell)} {F : Hp} {σ : St} {H : Hp} {Q : List (V × V) → Hp → Prop}, WpP K trs A S k → AtR K A R F H → SD K F σ S →
    (∀ A1 ps qs F1 H1, k A1 ps → Same F F1 → AtR K A1 R F1 H1 → Paired (fun (x : V × V) (y : SV × SV) => SR K F1 x.1 y.1 ∧ SR K F1 x.2 y.2) qs ps → Q qs H1) → tPairs trs σ H Q
  | [], A, S, k, R, F, σ, H, Q, h, a, sd, q => q A [] [] F H h (Same.refl F) a .nil
  | (tk, tv) :: r, A, S, k, R, F, σ, H, Q, h, a, sd, q => by
    refine h R F σ H _ a sd fun A1 s1 v F1 H1 h1 e1 a1 r1 => h1 R F1 σ H1 _ a1 (sd.mono e1) fun A2 s2 w F2 H2 h2 e2 a2 r2 => ?_
    exact wpp_run h2 a2 ((sd.mono e1).mono e2) fun A3 ps qs F3 H3 h3 e3 a3 r3 => q A3 _ _ F3 H3 h3 ((e1.trans e2).trans e3) a3 (.cons ⟨r1.mono (e2.trans e3), r2.mono e3⟩ r3)
def keyOf : SV → Option Key
  | .dat (.int i) => some (.inl i)
  | .dat (.str x) => some (.inr x)
  | _ => none
def keysOf : List (SV × SV) → Option (List (Key × SV))
  | [] => some []
  | (a, b) :: r => match keyOf a, keysOf r with
    | some x, some l => some ((x, b) :: l)
    | _, _ => none
theorem keyOf_v {F : Hp} {v : V} {s : SV} {x : Key} (h : keyOf s = some x) (r : SR K F v s) : v = kV x := by
  cases s with
  | dat d =>
    cases d with
    | int i => cases h; exact sr_int r
    | str z => cases h; exact sr_str r
    | none => cases h
    | bool b => cases h
    | list l => cases h
    | tuple l => cases h
    | dict l => cases h
  | no => cases h
  | ptr p => cases h
  | scr ns => cases h
theorem keysOf_v {F : Hp} : ∀ {ps : List (SV × SV)} {qs : List (V × V)} {kvs : List (Key × SV)}, keysOf ps = some kvs → Paired (fun (x : V × V) (y : SV × SV) => SR K F x.1 y.1 ∧ SR K F x.2 y.2) qs ps → ∃ vs : List (Key × V), qs = vs.map (fun kv => (kV kv.1, kv.2)) ∧ KVR K F vs kvs
  | [], _, kvs, h, .nil => by cases h; exact ⟨[], rfl, .nil⟩
  | (a, b) :: r, _, kvs, h, .cons (a := q) r1 t => by
    unfold keysOf at h
    cases e1 : keyOf a with
    | none => rw [e1] at h; cases h
    | some x =>
      cases e2 : keysOf r with
      | none => rw [e1, e2] at h; cases h
      | some l =>
        rw [e1, e2] at h
        cases h
        obtain ⟨vs, h1, h2⟩ := keysOf_v e2 t
        refine ⟨(x, q.2) :: vs, ?_, .cons ⟨rfl, r1.2⟩ h2⟩
        rw [h1, List.map_cons]
        have := keyOf_v e1 r1.1
        show (q.1, q.2) :: _ = (kV x, q.2) :: _
        rw [this]
def mergeS (kvs more : List (Key × SV)) : List (Key × SV) := more.foldl (fun acc kv => putS acc kv.1 kv.2) kvs
theorem kvr_merge {F : Hp} : ∀ {more : List (Key × V)} {moreS : List (Key × SV)} {vs : List (Key × V)} {kvs : List (Key × SV)}, KVR K F more moreS → KVR K F vs kvs → KVR K F (mergeK vs more) (mergeS kvs moreS)
  | _, _, _, _, .nil, h => h
  | a :: l, b :: m, vs, kvs, h0, h => by
    cases h0 with
    | cons r t =>
    have h1 : KVR K F (putK vs a.1 a.2) (putS kvs b.1 b.2) := by
      rw [← r.1]
      exact kvr_put h r.2
    show KVR K F (mergeK (putK vs a.1 a.2) l) (mergeS (putS kvs b.1 b.2) m)
    exact kvr_merge t h1
/-- {k: v, ..}: a new dict, one's own -/
theorem wp_disp {trs : List (TE × TE)} (h : WpP K trs A S fun A1 ps => ∃ kvs, keysOf ps = some kvs ∧ kvs.length ≤ 15 ∧ ∀ p, k (A1.add p (.dk (mergeS [] kvs))) (.ptr p)) : Wp K A (tDisp trs) S k := fun R F σ H Q a sd q p hp => by
  have a1 := (AtR.new (o := .dK []) (c := .dk []) a hp ⟨[], upd_same, .nil⟩).back
  refine wpp_run h a1 sd fun A1 ps qs F1 H1 ⟨kvs, h1, h2, h3⟩ e1 a2 r => ?_
  obtain ⟨_, _, us, f3, f4⟩ := At.cell a2 p (.dk []) (List.mem_append_right _ List.mem_cons_self)
  have f4' : KVR K F1 us [] := f4
  cases f4'
  obtain ⟨vs, g1, g2⟩ := keysOf_v h1 r
  refine ⟨f3, vs, g1, by rw [g2.length]; exact h2, ?_⟩
  have a3 := (a2.front).put (o := .dK (mergeK [] vs)) (c' := .dk (mergeS [] kvs)) .head ⟨_, upd_same, kvr_merge g2 .nil⟩
  exact q _ _ _ _ _ (h3 p) e1 a3 rfl

/-! ### chains, is None -/
theorem wp_chain (h : Wp K A ta S fun A1 s1 => Wp K A1 tb S fun A2 s2 => RW K r s1 s2 A2 fun A3 s3 => ∃ b, s3 = .dat (.bool b) ∧ (b = true → Wp K A3 tc S fun A4 s4 => RW K r' s2 s4 A4 k) ∧ (b = false → k A3 (.dat (.bool false)))) : Wp K A (tChain r r' ta tb tc) S k := fun R F σ H Q a sd q =>
  h R F σ H _ a sd fun A1 s1 v F1 H1 h1 e1 a1 r1 => h1 R F1 σ H1 _ a1 (sd.mono e1) fun A2 s2 w F2 H2 h2 e2 a2 r2 => h2 R F2 H2 v w _ a2 (r1.mono e2) r2 fun A3 s3 u F3 H3 ⟨b, hb, h3, h4⟩ e3 a3 r3 => by
    subst hb
    refine ⟨b, sr_bl r3, ?_⟩
    cases b with
    | true =>
      show tc σ H3 _
      exact h3 rfl R F3 σ H3 _ a3 (((sd.mono e1).mono e2).mono e3) fun A4 s4 x F4 H4 h5 e4 a4 r4 => h5 R F4 H4 w x Q a4 (r2.mono (e3.trans e4)) r4 (q.mono (((e1.trans e2).trans e3).trans e4))
    | false => exact q _ _ _ _ _ (h4 rfl) ((e1.trans e2).trans e3) a3 (.bl false)
def rIsNo : R2 := fun x y H Q => y = .non ∧ Q (.bl (decide (x = .non))) H
def rNotNo : R2 := fun x y H Q => y = .non ∧ Q (.bl (!decide (x = .non))) H
theorem op_isN1 {X : Cx} : OpR X (compareOp .Is) rIsNo := op_isN
theorem op_notN1 {X : Cx} : OpR X (compareOp .IsNot) rNotNo := op_notN
def isNone : PyData → Bool
  | .none => true
  | _ => false
theorem dt_isN {F : Hp} {v : V} {d : PyData} (h : Dt K F v d) : decide (v = .non) = isNone d := by
  cases h <;> rfl
theorem rw_isN {d : PyData} (h : k A (.dat (.bool (isNone d)))) : RW K rIsNo (.dat d) (.dat .none) A k := fun R F H v w Q a r1 r2 q =>
  ⟨sr_non r2, by rw [dt_isN r1]; exact q A _ _ F H h (Same.refl F) a (.bl _)⟩
theorem rw_notN {d : PyData} (h : k A (.dat (.bool (!isNone d)))) : RW K rNotNo (.dat d) (.dat .none) A k := fun R F H v w Q a r1 r2 q =>
  ⟨sr_non r2, by rw [dt_isN r1]; exact q A _ _ F H h (Same.refl F) a (.bl _)⟩
end

theorem op_eqA {X : Cx} (hu : X.A.units + 65 < cLine) : OpR X (compareOp .Eq) (rEqD X.K) := op_eqD (by omega)
theorem op_neA {X : Cx} (hu : X.A.units + 65 < cLine) : OpR X (compareOp .NotEq) (rNeD X.K) := op_neD (by omega)
theorem sz64 {n : Nat} (h : Nat.ble n 64 = true) : n ≤ sizeLine := Nat.le_trans (Nat.le_of_ble_eq_true h) (by decide)
theorem cxK {CX : CXT} {P : Program} {w : World} {K : PySem.W.Frag} {mg : Str → Option Value} {base : Heap} {N : List Str} {qual : Str} {scope : Scope} {f : Addr} {cd : Value} {A : Around} {outer : List Env} {s : Shared} {H : Hp} {E : XK} : (cxOf CX P w K mg base N qual scope f cd A outer s H E).nox.K = K := rfl
/-! ### facts about data -/
mutual
/-- no truths, no dicts within -/
def plainD : PyData → Bool
  | .none | .int _ => true
  | .str z => PyData.strOk z
  | .bool _ | .dict _ => false
  | .list xs | .tuple xs => plainA xs
def plainA : List PyData → Bool
  | [] => true
  | x :: xs => plainD x && plainA xs
end
mutual
theorem eqv_plain : ∀ (x y : PyData), plainD x = true → plainD y = true → (PyData.eqv x y = true ↔ x = y)
  | .none, y, _, hy => by cases y <;> simp [PyData.eqv]
  | .int i, y, _, hy => by cases y <;> simp_all [PyData.eqv, plainD]
  | .str z, y, _, hy => by cases y <;> simp_all [PyData.eqv, plainD]
  | .bool b, y, hx, _ => by simp [plainD] at hx
  | .dict b, y, hx, _ => by simp [plainD] at hx
  | .list xs, y, hx, hy => by
    cases y with
    | list ys =>
      have h := eqvAll_plain xs ys (by simpa [plainD] using hx) (by simpa [plainD] using hy)
      simp [PyData.eqv, h]
    | bool b => simp [plainD] at hy
    | dict b => simp [plainD] at hy
    | _ => simp [PyData.eqv]
  | .tuple xs, y, hx, hy => by
    cases y with
    | tuple ys =>
      have h := eqvAll_plain xs ys (by simpa [plainD] using hx) (by simpa [plainD] using hy)
      simp [PyData.eqv, h]
    | bool b => simp [plainD] at hy
    | dict b => simp [plainD] at hy
    | _ => simp [PyData.eqv]
theorem eqvAll_plain : ∀ (xs ys : List PyData), plainA xs = true → plainA ys = true → (PyData.eqvAll xs ys = true ↔ xs = ys)
  | [], [], _, _ => by simp [PyData.eqvAll]
  | [], _ :: _, _, _ => by simp [PyData.eqvAll]
  | _ :: _, [], _, _ => by simp [PyData.eqvAll]
  | x :: xs, y :: ys, hx, hy => by
    simp only [plainA, Bool.and_eq_true] at hx hy
    have h1 := eqv_plain x y hx.1 hy.1
    have h2 := eqvAll_plain xs ys hx.2 hy.2
    simp [PyData.eqvAll, h1, h2]
end
theorem plainA_map {α : Type} {f : α → PyData} (h : ∀ a, plainD (f a) = true) : ∀ xs : List α, plainA (xs.map f) = true
  | [] => by simp [plainA]
  | x :: xs => by simp [plainA, h x, plainA_map h xs]
theorem plainA_mem : ∀ {xs : List PyData}, plainA xs = true ↔ ∀ x ∈ xs, plainD x = true
  | [] => by simp [plainA]
  | x :: xs => by simp [plainA, plainA_mem (xs := xs)]
/-- eqv of an encoding is equality -/
theorem eqv_enc {α : Type} [DecidableEq α] {f : α → PyData} (hp : ∀ a, plainD (f a) = true) (hi : ∀ a b, f a = f b → a = b) (a b : α) : PyData.eqv (f a) (f b) = decide (a = b) := by
  by_cases e : a = b
  · subst e
    rw [decide_eq_true rfl]
    exact (eqv_plain _ _ (hp a) (hp a)).mpr rfl
  · rw [decide_eq_false e]
    cases h : PyData.eqv (f a) (f b) with
    | false => rfl
    | true => exact absurd (hi a b ((eqv_plain _ _ (hp a) (hp b)).mp h)) e
theorem any_enc {α : Type} [DecidableEq α] {f : α → PyData} (hp : ∀ a, plainD (f a) = true) (hi : ∀ a b, f a = f b → a = b) (xs : List α) (b : α) : (xs.map f).any (fun z => PyData.eqv z (f b)) = decide (b ∈ xs) := by
  induction xs with
  | nil => simp
  | cons x xs ih =>
    rw [List.map_cons, List.any_cons, ih, eqv_enc hp hi]
    by_cases e : x = b
    · simp [e]
    · have e' : ¬ b = x := fun q => e q.symm
      simp [e, e']
theorem lay_plain : ∀ (x : PyData), plainD x = true → x.canLay0 = true := by
  intro x
  exact PyData.rec (motive_1 := fun x => plainD x = true → x.canLay0 = true) (motive_2 := fun xs => plainA xs = true → PyData.canLayAll0 xs = true) (motive_3 := fun _ => True) (motive_4 := fun _ => True)
    (fun _ => by simp [PyData.canLay0]) (fun b h => by simp [plainD] at h) (fun i _ => by simp [PyData.canLay0]) (fun z h => by simp only [plainD] at h; simpa [PyData.canLay0] using h) (fun xs ih h => by simp only [plainD] at h; simpa [PyData.canLay0] using ih h)
    (fun xs ih h => by simp only [plainD] at h; simpa [PyData.canLay0] using ih h) (fun _ _ h => by simp [plainD] at h) (fun _ => by simp [PyData.canLayAll0]) (fun y ys i1 i2 h => by simp only [plainA, Bool.and_eq_true] at h; simp [PyData.canLayAll0, i1 h.1, i2 h.2])
    trivial (fun _ _ _ _ => trivial) (fun _ _ _ _ => trivial) x
theorem shaped_plain {x : PyData} (h : plainD x = true) (hd : x.depth ≤ 64) : SeqAt.shaped x = true := by
  unfold SeqAt.shaped
  rw [lay_plain x h, decide_eq_true hd]
  rfl
theorem depthAll_le {n : Nat} : ∀ {xs : List PyData}, (∀ x ∈ xs, x.depth ≤ n) → PyData.depthAll xs ≤ n
  | [], _ => by simp [PyData.depthAll]
  | x :: xs, h => by
    have h1 := h x List.mem_cons_self
    have h2 := depthAll_le (xs := xs) fun y hy => h y (List.mem_cons_of_mem _ hy)
    simp only [PyData.depthAll]
    omega
/-! ### sorted lists of data -/
theorem dataLe_total : PySem.W.TotalLe (PySem.W.dataLe false (id : PyData → PyData)) := PySem.W.sortLe_total _ false _
theorem dsort_perm (ds : List PyData) : (dsort ds).Perm ds := List.mergeSort_perm _ _
theorem dsort_pair (ds : List PyData) : (dsort ds).Pairwise fun a b => PySem.W.dataLe false id a b = true := PySem.W.sort_pairwise dataLe_total ds
/-- two alike ones, neither less than the other, are one -/
theorem not_lt {x y : PyData} (ha : PySem.W.alike x y = true) (h1 : PySem.W.dataLt x y = false) (h2 : PySem.W.dataLt y x = false) : PyData.eqv x y = true := by
  have e : PySem.W.keyToks x = PySem.W.keyToks y := (PyProof.Rows.listOrd PyProof.Rows.itemOrd).total _ _ h1 h2
  cases h : PyData.eqv x y with
  | true => rfl
  | false =>
    have h3 := (PySem.W.toks_eqv x y ha).2 h [] [.inl 0]
    have h4 : PyProof.Rows.lexLt PyProof.Rows.itemOrd (PySem.W.keyToks x) (PySem.W.keyToks y) = false := h1
    rw [← e, PySem.W.lex_pre] at h3
    rw [← e] at h4
    rw [h4] at h3
    have h5 : PyProof.Rows.lexLt PyProof.Rows.itemOrd [] [.inl 0] = true := rfl
    exact h3.symm.trans h5
theorem perm_sorted {α : Type} {le : α → α → Prop} : ∀ {l m : List α}, (∀ a ∈ l, ∀ b ∈ l, le a b → le b a → a = b) → l.Perm m → l.Pairwise le → m.Pairwise le → l = m
  | [], m, _, p, _, _ => p.nil_eq
  | a :: l, [], _, p, _, _ => absurd p.symm.nil_eq (by simp)
  | a :: l, b :: m, anti, p, h1, h2 => by
    have e : a = b := by
      have ha : a ∈ b :: m := p.mem_iff.mp List.mem_cons_self
      have hb : b ∈ a :: l := p.mem_iff.mpr List.mem_cons_self
      rcases List.mem_cons.mp ha with ha | ha
      · exact ha
      rcases List.mem_cons.mp hb with hb | hb
      · exact hb.symm
      exact anti a List.mem_cons_self b (List.mem_cons_of_mem _ hb) ((List.pairwise_cons.mp h1).1 b hb) ((List.pairwise_cons.mp h2).1 a ha)
    subst e
    rw [perm_sorted (fun x hx y hy => anti x (List.mem_cons_of_mem _ hx) y (List.mem_cons_of_mem _ hy)) ((List.perm_cons a).mp p) (List.pairwise_cons.mp h1).2 (List.pairwise_cons.mp h2).2]
/-- two lists of the same things are sorted to one -/
theorem dsort_eq {l m : List PyData} (p : l.Perm m) (hal : PySem.W.AllAlike l) (hp : plainA l = true) : dsort l = dsort m := by
  refine perm_sorted (le := fun a b => PySem.W.dataLe false id a b = true) (fun a ha b hb h1 h2 => ?_) (((dsort_perm l).trans p).trans (dsort_perm m).symm) (dsort_pair l) (dsort_pair m)
  have ha' := (dsort_perm l).mem_iff.mp ha
  have hb' := (dsort_perm l).mem_iff.mp hb
  have k1 : (!PySem.W.dataLt b a) = true := h1
  have k2 : (!PySem.W.dataLt a b) = true := h2
  rw [Bool.not_eq_true'] at k1 k2
  exact (eqv_plain a b (plainA_mem.mp hp a ha') (plainA_mem.mp hp b hb')).mp (not_lt (hal a ha' b hb') k2 k1)
end DL

/-! The data layer: calls with keywords, all parameters given. -/
namespace DL
open PySem L2
/-- the parameters' order: from the values by place (inl), by name (inr) -/
def kperm {α : Type} (z : α) (perm : List (Sum Nat Nat)) (us ws : List α) : List α := perm.map fun
  | .inl j => us.getD j z
  | .inr j => ws.getD j z
structure KB (K : PySem.W.Frag) (fd : FuncData) (ps : List Str) (n : Nat) (ks : List Str) (perm : List (Sum Nat Nat)) : Prop where
  to : ∀ (s : Shared) (us ws : List Value), K.In s.heap → us.length = n → ws.length = ks.length → BindsTo s fd ⟨us, ks.zip ws⟩ (ps.zip (kperm .none perm us ws))
  len : perm.length = ps.length
theorem kb_of {K : PySem.W.Frag} {x qual : Str} {st : Stmt} {f : Addr} {fd : FuncData} {ps ks : List Str} {n : Nat} {perm : List (Sum Nat Nat)} (F : Fun K x qual st f fd) (hl : perm.length = ps.length)
    (h : ∀ (kV doc pm : Value) (an : Option Addr) (cdv ct : Value) (us ws : List Value), us.length = n → ws.length = ks.length → bindArgs (PySem.W.fnOf x qual (defArgs st) (defBody st) (defScope st) .none kV doc pm an cdv ct) ⟨us, ks.zip ws⟩ = pure (ps.zip (kperm .none perm us ws))) : KB K fd ps n ks perm := by
  obtain ⟨oc, od, kV, doc, pm, an, cdv, ct, osl, rfl, lk, hcd⟩ := F.ex
  exact ⟨fun s us ws _ h1 h2 => .of_eq (h kV doc pm an cdv ct us ws h1 h2), hl⟩
theorem vals_getD {vs : List V} {us : List Value} (r : Vals vs us) (j : Nat) : RelV (vs.getD j .non) (us.getD j .none) := by
  induction r generalizing j with
  | nil => simp; rfl
  | cons h t ih =>
    cases j with
    | zero => simpa using h
    | succ j => simpa using ih j
theorem vals_perm {vs ws : List V} {us zs : List Value} (r : Vals vs us) (r' : Vals ws zs) : ∀ perm : List (Sum Nat Nat), Vals (kperm .non perm vs ws) (kperm .none perm us zs)
  | [] => .nil
  | .inl j :: p => .cons (vals_getD r j) (vals_perm r r' p)
  | .inr j :: p => .cons (vals_getD r' j) (vals_perm r r' p)
theorem srs_getD {K : PySem.W.Frag} {F : Hp} {vs : List V} {ss : List SV} (r : SRs K F vs ss) (j : Nat) : SR K F (vs.getD j .non) (ss.getD j (.dat .none)) := by
  induction r generalizing j with
  | nil => simp; exact .non
  | cons h t ih =>
    cases j with
    | zero => simpa using h
    | succ j => simpa using ih j
theorem srs_perm {K : PySem.W.Frag} {F : Hp} {vs ws : List V} {ss ts : List SV} (r : SRs K F vs ss) (r' : SRs K F ws ts) : ∀ perm : List (Sum Nat Nat), SRs K F (kperm .non perm vs ws) (kperm (.dat .none) perm ss ts)
  | [] => .nil
  | .inl j :: p => .cons (srs_getD r j) (srs_perm r r' p)
  | .inr j :: p => .cons (srs_getD r' j) (srs_perm r r' p)
def tCallP (n m : Nat) (sp : Sp) (perm : List (Sum Nat Nat)) (E : XK) (t tk : TA) : TE := fun σ H Q => t σ H fun vs H1 => tk σ H1 fun zs H2 => vs.length = n ∧ zs.length = m ∧ sp (kperm .non perm vs zs) H2 Q E
section
variable {X : Cx} {CX : CXT} {k n : Nat} {f : Addr} {fd : FuncData} {ps ks : List Str} {sp : Sp} {E : XK} {x : Str} {p pos : Pos} {e : Expr} {es : List Expr} {kws : List Keyword} {t tk : TA} {perm : List (Sum Nat Nat)}
theorem run_kp {pins : List (Addr × Obj)} {σ : St} {H : Hp} {s : Shared} {Q : VK} {us ws : List Value} {vs zs : List V} (F : FnOk X.prog X.w X.K X.mg X.base CX k f fd ps sp) (hr : Room k X.A) (hb : KB X.K fd ps n ks perm) (hx : Passes CX X E)
    (I : Inv X pins σ H s) (r : Vals vs us) (rz : Vals zs ws) (h1 : vs.length = n) (h2 : zs.length = ks.length) (h : sp (kperm .non perm vs zs) H Q E) : wpAny (model X.prog X.w) X.A (call (.ref f) us (ks.zip ws)) (EP X pins σ Q) X.xe s := by
  have b := hb.to s us ws I.kIn (r.length.symm.trans h1) (rz.length.symm.trans h2)
  refine wpAny_call (codeAny_mono (F.run X.A X.stack s H ⟨us, ks.zip ws⟩ _ _ Q E hr I.env0 b (vals_perm r rz perm) h) fun r s' hq => ?_)
  cases r with
  | error e => exact hx pins σ H s e s' I hq
  | ok fl =>
    cases fl with
    | ret u => exact I.after hq
    | next => exact False.elim hq
    | brk => exact False.elim hq
    | cont => exact False.elim hq
theorem pe_callP (F : FnOk X.prog X.w X.K X.mg X.base CX k f fd ps sp) (hr : Room k X.A) (hg : Gl X x) (hm : X.mg x = some (.ref f)) (hk : PySem.W.keepIn X.K (.ref f) = true) (hb : KB X.K fd ps n ks perm) (hx : Passes CX X E)
    (ha : PA X (e :: es) t) (hkw : PK X kws tk) (hall : (backToKw pos (keywordEach kws X.env)).all (·.1.isSome) = true := by rfl) (hks : (backToKw pos (keywordEach kws X.env)).filterMap (·.1) = ks := by rfl)
    (hdb : (x == ("__debug__" : Str)) = false := by decide) (he : starEach (e :: es) X.env = (false, eval e X.env) :: starEach es X.env := by rfl)
    (hpl : ((backTo pos (starEach (e :: es) X.env)).any (·.1) || (backToKw pos (keywordEach kws X.env)).any (·.1.isNone)) = false := by rfl) :
    PE X (.Call (.Name x p) (e :: es) kws pos) (tCallP n ks.length sp perm E t tk) := by
  refine ⟨fun pins s σ H Q I h => wpAny_Call_Name_kw (ld_glob I hg hm ?_ hdb)⟩
  refine PySem.W.callWith_KW (h₀ := X.base) I.ok.mod.kin hk hall (thn (ha.run pos pins s σ H _ I h) fun us s1 ⟨vs, H1, I1, r, q⟩ => thn (hkw.run pos pins s1 σ H1 _ I1 q) fun ws s2 ⟨zs, H2, I2, rz, q2⟩ => ⟨I2.kIn, ?_⟩) hpl he
  rw [hks]
  exact run_kp F hr hb hx I2 r rz q2.1 q2.2.1 q2.2.2
theorem pe_callP0 (F : FnOk X.prog X.w X.K X.mg X.base CX k f fd ps sp) (hr : Room k X.A) (hg : Gl X x) (hm : X.mg x = some (.ref f)) (hk : PySem.W.keepIn X.K (.ref f) = true) (hb : KB X.K fd ps 0 ks perm) (hx : Passes CX X E)
    (hkw : PK X kws tk) (hall : (backToKw pos (keywordEach kws X.env)).all (·.1.isSome) = true := by rfl) (hks : (backToKw pos (keywordEach kws X.env)).filterMap (·.1) = ks := by rfl)
    (hdb : (x == ("__debug__" : Str)) = false := by decide)
    (hpl : ((backTo pos (starEach [] X.env)).any (·.1) || (backToKw pos (keywordEach kws X.env)).any (·.1.isNone)) = false := by rfl) :
    PE X (.Call (.Name x p) [] kws pos) (tCallP 0 ks.length sp perm E tNil tk) := by
  refine ⟨fun pins s σ H Q I h => wpAny_Call_Name_kw (ld_glob I hg hm ?_ hdb)⟩
  refine PySem.W.callWith_KW0 (h₀ := X.base) I.ok.mod.kin hk hall (thn (hkw.run pos pins s σ H _ I h) fun ws s2 ⟨zs, H2, I2, rz, q2⟩ => ⟨I2.kIn, ?_⟩) hpl
  rw [hks]
  exact run_kp (us := []) (vs := []) F hr hb hx I2 .nil rz q2.1 q2.2.1 q2.2.2
end
theorem wp_callP {K : PySem.W.Frag} {A : Amb} {S : List SV} {k : KA} {n m : Nat} {W : List SV → Amb → KA → Prop} {EX : XK} {ta tk : TA} {perm : List (Sum Nat Nat)}
    (h : WpA K A ta S fun A1 ss => WpA K A1 tk S fun A2 ts => ss.length = n ∧ ts.length = m ∧ W (kperm (.dat .none) perm ss ts) A2 k) : Wp K A (tCallP n m (spW K W) perm EX ta tk) S k := fun R F σ H Q a sd q =>
  h R F σ H _ a sd fun A1 ss vs F1 H1 h1 e1 a1 r1 => h1 R F1 σ H1 _ a1 (sd.mono e1) fun A2 ts ws F2 H2 ⟨h2, h3, h4⟩ e2 a2 r2 => ⟨by rw [r1.length]; exact h2, by rw [r2.length]; exact h3, A2, R, F2, _, k, a2, srs_perm (SRs.mono e2 r1) r2 perm, h4, q.mono (e1.trans e2)⟩
end DL

/-! The data layer: comprehensions and loops over lists of encoded things. -/
namespace DL
open PySem L2
section
variable {K : PySem.W.Frag} {A A' : Amb} {S S' : List SV} {ta tb tc te tl : TE} {t u tt tt1 : TT} {s s1 s2 : SV} {E : DE} {tu tw : TS} {g g1 : TG} {wi wi1 : TI} {vs vs1 : List Nat} {k : KA} {α β : Type}
theorem get_enc {enc : α → PyData} {xs : List α} {i : Nat} {s : SV} (h : ((xs.map enc).map SV.dat)[i]? = some s) : ∃ x, xs[i]? = some x ∧ s = .dat (enc x) := by
  rw [List.getElem?_map, List.getElem?_map] at h
  cases e : xs[i]? with
  | none => rw [e] at h; cases h
  | some x => rw [e] at h; exact ⟨x, rfl, (Option.some.inj h).symm⟩
theorem filter_take (p : α → Bool) (f : α → β) {xs : List α} {i : Nat} {x : α} (h : xs[i]? = some x) : ((xs.take (i + 1)).filter p).map f = ((xs.take i).filter p).map f ++ if p x = true then [f x] else [] := by
  rw [List.take_add_one, h, List.filter_append, List.map_append]
  congr 1
  by_cases hp : p x = true
  · simp [hp]
  · simp [hp]
/-- a turn's step, told by the item -/
def LcItem (K : PySem.W.Frag) (g : TG) (tt : TT) (te : TE) (S : List SV) (vs : List Nat) (A : Amb) (s : SV) (b : Bool) (d : PyData) : Prop :=
  GW K g s (wipeS S vs) A fun A3 S3 => WpT K A3 tt S3 fun A4 b' => b' = b ∧ (b = true → Wp K A4 te S3 fun A5 s5 => A5 = A ∧ s5 = .dat d) ∧ (b = false → A4 = A)
theorem wp_lcMO {enc : α → PyData} {xs : List α} (to : TOnly g vs) (p : α → Bool) (f : α → PyData) (hl : xs.length ≤ sizeLine)
    (h : IW K A wi S fun A1 ss => ss = (xs.map enc).map .dat ∧ (∀ x ∈ xs, LcItem K g tt te S vs A1 (.dat (enc x)) (p x) (f x)) ∧ ∀ q, k (A1.add q (.lst (((xs.filter p).map f).map .dat))) (.ptr q)) : Wp K A (tLc wi g tt te vs) S k :=
  wp_lcO to <| IW.imp h fun A1 ss ⟨e, hs, hk⟩ => by
    subst e
    refine ⟨fun i A2 acc => A2 = A1 ∧ i ≤ xs.length ∧ acc = (((xs.take i).filter p).map f).map .dat, ⟨rfl, Nat.zero_le _, by simp⟩, fun i s hi A2 acc ⟨e1, e0, e2⟩ => ?_, fun A2 acc ⟨e1, e0, e2⟩ q => ?_⟩
    · subst e1; subst e2
      obtain ⟨x, hx, rfl⟩ := get_enc hi
      have hlt := (List.getElem?_eq_some_iff.mp hx).1
      refine (hs x (List.mem_of_getElem? hx)).imp fun A3 S3 h3 => h3.imp fun A4 b ⟨e5, h5, h6⟩ => ⟨fun hb => ?_, fun hb => ?_⟩
      · rw [e5] at hb
        refine (h5 hb).imp fun A5 s5 ⟨e6, e7⟩ => ?_
        subst e6; subst e7
        refine ⟨?_, rfl, hlt, by rw [filter_take p f hx, if_pos hb, List.map_append]; rfl⟩
        have h1 := List.length_filter_le p (xs.take i)
        have h2 : (xs.take i).length = i := by rw [List.length_take]; omega
        rw [List.length_map, List.length_map]
        omega
      · rw [e5] at hb
        have := h6 hb
        subst this
        exact ⟨rfl, hlt, by rw [filter_take p f hx, if_neg (by rw [hb]; exact Bool.false_ne_true), List.append_nil]⟩
    · subst e1; subst e2
      rw [List.length_map, List.length_map, List.take_length]
      exact hk q
theorem wp_lcM {enc : α → PyData} {xs : List α} (to : TOnly g vs) (p : α → Bool) (f : α → PyData) (hl : xs.length ≤ sizeLine)
    (h : IW K A wi S fun A1 ss => ss = (xs.map enc).map .dat ∧ (∀ x ∈ xs, LcItem K g tt te S vs A1 (.dat (enc x)) (p x) (f x)) ∧ k A1 (.dat (.list ((xs.filter p).map f)))) : Wp K A (tLc wi g tt te vs) S k :=
  wp_frz <| wp_lcMO to p f hl <| IW.imp h fun A1 ss ⟨e, hs, hk⟩ => ⟨e, hs, fun q => ⟨q, _, A1.cells, rfl, .head, hk⟩⟩
/-- no test -/
theorem lc_item {d : PyData} (h : GW K g s (wipeS S vs) A fun A3 S3 => Wp K A3 te S3 fun A5 s5 => A5 = A ∧ s5 = .dat d) : LcItem K g tYes te S vs A s true d :=
  h.imp fun A3 S3 h3 => wpt_yes ⟨rfl, fun _ => h3, fun z => by cases z⟩
theorem filter_true (xs : List α) : xs.filter (fun _ => true) = xs := List.filter_eq_self.mpr fun _ _ => rfl
theorem wp_lcA {enc : α → PyData} {xs : List α} (to : TOnly g vs) (f : α → PyData) (hl : xs.length ≤ sizeLine)
    (h : IW K A wi S fun A1 ss => ss = (xs.map enc).map .dat ∧ (∀ x ∈ xs, GW K g (.dat (enc x)) (wipeS S vs) A1 fun A3 S3 => Wp K A3 te S3 fun A5 s5 => A5 = A1 ∧ s5 = .dat (f x)) ∧ k A1 (.dat (.list (xs.map f)))) : Wp K A (tLc wi g tYes te vs) S k :=
  wp_lcM (enc := enc) (xs := xs) to (fun _ => true) f hl <| IW.imp h fun A1 ss ⟨e, hs, hk⟩ => ⟨e, fun x hx => lc_item (hs x hx), by rw [filter_true]; exact hk⟩
theorem irange_enc (lo : Int) (n : Nat) : irange lo n = ((List.range n).map fun (i : Nat) => PyData.int (lo + i)).map .dat := by
  unfold irange
  rw [List.map_map]
  rfl
/-- two for -/
theorem wp_lc2M {enc : α → PyData} {enc1 : β → PyData} {xs : List α} {ys : α → List β} (to : TOnly g vs) (to1 : TOnly g1 vs1) (p : α → β → Bool) (f : α → β → PyData) {n : Nat} (hn : ∀ x ∈ xs, (ys x).length ≤ n) (hl : xs.length * n ≤ sizeLine)
    (h : IW K A wi S fun A1 ss => ss = (xs.map enc).map .dat ∧ (∀ x ∈ xs, GW K g (.dat (enc x)) (wipeS S vs) A1 fun A3 S3 => WpT K A3 tt S3 fun A4 b => b = true ∧ IW K A4 wi1 S3 fun A5 ts => A5 = A1 ∧ ts = ((ys x).map enc1).map .dat ∧
      ∀ y ∈ ys x, LcItem K g1 tt1 te S3 vs1 A1 (.dat (enc1 y)) (p x y) (f x y)) ∧ ∀ q, k (A1.add q (.lst ((xs.flatMap fun x => ((ys x).filter (p x)).map (f x)).map .dat))) (.ptr q)) : Wp K A (tLc2 wi g tt wi1 g1 tt1 te vs vs1) S k :=
  wp_lc2O to to1 <| IW.imp h fun A1 ss ⟨e, hs, hk⟩ => by
    subst e
    have bound : ∀ i, i ≤ xs.length → ((xs.take i).flatMap fun x => ((ys x).filter (p x)).map (f x)).length ≤ i * n := by
      intro i hi
      have aux : ∀ l : List α, (∀ x ∈ l, x ∈ xs) → (l.flatMap fun x => ((ys x).filter (p x)).map (f x)).length ≤ l.length * n := by
        intro l
        induction l with
        | nil => intro _; simp
        | cons x l ih =>
          intro hm
          rw [List.flatMap_cons, List.length_append, List.length_map, List.length_cons, Nat.succ_mul]
          have h1 := List.length_filter_le (p x) (ys x)
          have h2 := hn x (hm x List.mem_cons_self)
          have h3 := ih fun y hy => hm y (List.mem_cons_of_mem _ hy)
          omega
      have h1 := aux (xs.take i) fun x hx => List.mem_of_mem_take hx
      have h2 : (xs.take i).length = i := by rw [List.length_take]; omega
      rw [h2] at h1
      exact h1
    refine ⟨fun i A2 acc => A2 = A1 ∧ i ≤ xs.length ∧ acc = ((xs.take i).flatMap fun x => ((ys x).filter (p x)).map (f x)).map .dat, ⟨rfl, Nat.zero_le _, by simp⟩, fun i s hi A2 acc ⟨e1, e0, e2⟩ => ?_, fun A2 acc ⟨e1, e0, e2⟩ q => ?_⟩
    · subst e1; subst e2
      obtain ⟨x, hx, rfl⟩ := get_enc hi
      have hm := List.mem_of_getElem? hx
      have hlt := (List.getElem?_eq_some_iff.mp hx).1
      refine (hs x hm).imp fun A3 S3 h3 => h3.imp fun A4 b ⟨hb, h4⟩ => ⟨fun _ => IW.imp h4 fun A5 ts ⟨e5, e6, h6⟩ => ?_, fun z => by rw [hb] at z; cases z⟩
      subst e5; subst e6
      have ht : ((xs.take (i + 1)).flatMap fun x => ((ys x).filter (p x)).map (f x)) = ((xs.take i).flatMap fun x => ((ys x).filter (p x)).map (f x)) ++ ((ys x).filter (p x)).map (f x) := by
        rw [List.take_add_one, hx, List.flatMap_append]
        simp
      refine ⟨fun j A7 acc7 => A7 = A5 ∧ j ≤ (ys x).length ∧ acc7 = (((xs.take i).flatMap fun x => ((ys x).filter (p x)).map (f x)) ++ (((ys x).take j).filter (p x)).map (f x)).map .dat, ⟨rfl, Nat.zero_le _, by simp⟩, fun j s1 hj A7 acc7 ⟨e7, e8, e9⟩ => ?_, fun A7 acc7 ⟨e7, e8, e9⟩ => ?_⟩
      · subst e7; subst e9
        obtain ⟨y, hy, rfl⟩ := get_enc hj
        have hjl := (List.getElem?_eq_some_iff.mp hy).1
        refine (h6 y (List.mem_of_getElem? hy)).imp fun A8 S8 h8 => h8.imp fun A9 b ⟨e10, h9, h10⟩ => ⟨fun hb => ?_, fun hb => ?_⟩
        · rw [e10] at hb
          refine (h9 hb).imp fun A10 s10 ⟨e11, e12⟩ => ?_
          subst e11; subst e12
          refine ⟨?_, rfl, hjl, by rw [filter_take (p x) (f x) hy, if_pos hb, ← List.append_assoc, dats_app]⟩
          have h1 := List.length_filter_le (p x) ((ys x).take j)
          have h2 : ((ys x).take j).length = j := by rw [List.length_take]; omega
          have h3 := hn x hm
          have h4 := bound i e0
          have h5 : (i + 1) * n ≤ xs.length * n := Nat.mul_le_mul_right n hlt
          rw [Nat.succ_mul] at h5
          rw [List.length_map, List.length_append, List.length_map]
          omega
        · rw [e10] at hb
          have := h10 hb
          subst this
          exact ⟨rfl, hjl, by rw [filter_take (p x) (f x) hy, if_neg (by rw [hb]; exact Bool.false_ne_true), List.append_nil]⟩
      · subst e7; subst e9
        rw [List.length_map, List.length_map, List.take_length]
        exact ⟨rfl, hlt, by rw [ht]⟩
    · subst e1; subst e2
      rw [List.length_map, List.length_map, List.take_length]
      exact hk q
/-- a loop over encoded things -/
theorem go_forM {enc : α → PyData} {xs : List α} (h : IW K A wi S fun A1 ss => ss = (xs.map enc).map .dat ∧ ∃ J : Nat → KS, J 0 A1 S ∧
    (∀ i x A2 S2, xs[i]? = some x → J i A2 S2 → GW K g (.dat (enc x)) S2 A2 fun A3 S3 => Go K A3 tu S3 (E.loop (J (i + 1)))) ∧ ∀ A2 S2, J xs.length A2 S2 → E.nx A2 S2) : Go K A (tFor wi g tu) S E :=
  go_for <| IW.imp h fun A1 ss ⟨e, J, j0, js, je⟩ => by
    subst e
    refine ⟨J, j0, fun i s A2 S2 hi hj => ?_, fun A2 S2 hj => je A2 S2 (by simpa using hj)⟩
    obtain ⟨x, hx, rfl⟩ := get_enc hi
    exact js i x A2 S2 hx hj
theorem go_forR {n : Nat} (h : IW K A wi S fun A1 ss => ss = irange 0 n ∧ ∃ J : Nat → KS, J 0 A1 S ∧
    (∀ i A2 S2, i < n → J i A2 S2 → GW K g (.dat (.int i)) S2 A2 fun A3 S3 => Go K A3 tu S3 (E.loop (J (i + 1)))) ∧ ∀ A2 S2, J n A2 S2 → E.nx A2 S2) : Go K A (tFor wi g tu) S E :=
  go_for <| IW.imp h fun A1 ss ⟨e, J, j0, js, je⟩ => by
    subst e
    refine ⟨J, j0, fun i s A2 S2 hi hj => ?_, fun A2 S2 hj => je A2 S2 (by rw [irange_length] at hj; exact hj)⟩
    obtain ⟨h1, h2⟩ := irange_get hi
    rw [Int.zero_add] at h2
    subst h2
    exact js i A2 S2 h1 hj
end
end DL
namespace DL
open PySem L2
section
variable {K : PySem.W.Frag} {A A' : Amb} {S S' : List SV} {tk tv : TE} {vs : List Nat} {u u' : TGs}
theorem go_cut {E : DE} {tu : TS} (P : KS) (h : Go K A tu S (E.seq P)) (i : ∀ A1 S1, P A1 S1 → E.nx A1 S1) : Go K A tu S E := fun R F σ H D a sd o => h R F σ H D a sd ⟨fun A1 S1 F1 σ1 H1 hp => o.nx A1 S1 F1 σ1 H1 (i A1 S1 hp), o.bk, o.ct, o.rt⟩
theorem out_frz {R : List (Addr × Cell)} {F : Hp} {Q : VK} {k : KA} (q : OutV K R F Q k) : OutV K R F Q fun A1 s => ∃ p ds l', s = .ptr p ∧ Rem A1.cells p (.lst (ds.map .dat)) l' ∧ k ⟨A1.I, l'⟩ (.dat (.list ds)) := fun A1 s v F1 H1 ⟨p, ds, l', hs, hr, hk⟩ e1 a1 r1 => by
  subst hs
  obtain rfl : v = .ref p := r1
  obtain ⟨F2, e2, a2, d2⟩ := At.frz (A := ⟨A1.I, A1.cells ++ R⟩) a1 hr.app
  exact q _ _ _ _ _ hk (e1.trans e2) a2 d2
theorem cw_frz {r : List V → Hp → VK → Prop} {ss : List SV} (h : CW K r ss A fun A1 s => ∃ p ds l', s = .ptr p ∧ Rem A1.cells p (.lst (ds.map .dat)) l' ∧ k ⟨A1.I, l'⟩ (.dat (.list ds))) : CW K r ss A k := fun R F H vs Q a rs q => h R F H vs Q a rs (out_frz q)
theorem rw_eqS {x y : Str} (h : k A (.dat (.bool (decide (x = y))))) : RW K rEq (.dat (.str x)) (.dat (.str y)) A k := fun R F H v w Q a r1 r2 q => by
  obtain rfl := sr_str r1
  obtain rfl := sr_str r2
  have e : decide (V.str x = V.str y) = decide (x = y) := decide_eq_decide.mpr ⟨fun h => V.str.inj h, fun h => by rw [h]⟩
  exact ⟨rfl, by rw [e]; exact q A _ _ F H h (Same.refl F) a (.bl _)⟩
theorem rw_neS {x y : Str} (h : k A (.dat (.bool (!decide (x = y))))) : RW K rNe (.dat (.str x)) (.dat (.str y)) A k := fun R F H v w Q a r1 r2 q => by
  obtain rfl := sr_str r1
  obtain rfl := sr_str r2
  have e : decide (V.str x = V.str y) = decide (x = y) := decide_eq_decide.mpr ⟨fun h => V.str.inj h, fun h => by rw [h]⟩
  exact ⟨rfl, by rw [e]; exact q A _ _ F H h (Same.refl F) a (.bl _)⟩
def IsD (A : Amb) (s : SV) (d : PyData) : Prop := s = .dat d ∨ ∃ p ds, s = .ptr p ∧ (p, Cell.lst (ds.map .dat)) ∈ A.cells ∧ d = .list ds
theorem wp_isiG {T : String} (h : Wp K A ta S fun A1 s => ∃ d, IsD A1 s d ∧ T ∈ kinds ∧ k A1 (.dat (.bool (isK T d)))) : Wp K A (tCB (rIsiD K) (tCons ta (tCons (tC (.ty T)) tNil))) S k := fun R F σ H Q a sd q =>
  h R F σ H _ a sd fun A1 s v F1 H1 ⟨d, hs, hT, hk⟩ e1 a1 r1 => by
    rcases hs with hs | ⟨p, ds, hs, hp, rfl⟩
    · subst hs
      exact ⟨v, T, d, rfl, hT, Dt.mono a1.same r1, q A1 _ _ F1 H1 hk e1 a1 (.bl _)⟩
    · subst hs
      obtain rfl : v = .ref p := r1
      exact ⟨_, T, .list ds, rfl, hT, a1.cellP hp, q A1 _ _ F1 H1 hk e1 a1 (.bl _)⟩
theorem wp_join {b : Bool} (P : KA) (h1 : b = true → Wp K A ta S P) (h2 : b = false → Wp K A tb S P) (h3 : ∀ A1 s1, P A1 s1 → k A1 s1) : (b = true → Wp K A ta S k) ∧ (b = false → Wp K A tb S k) := ⟨fun h => (h1 h).imp h3, fun h => (h2 h).imp h3⟩
/-- both ways of an if meet -/
theorem if_join {E : DE} {tu tw : TS} {b : Bool} {f : KS} (P : KS) (h1 : b = true → Go K A tu S (E.seq P)) (h2 : b = false → Go K A tw S (E.seq P)) (h3 : ∀ A1 S1, P A1 S1 → f A1 S1) : (b = true → Go K A tu S (E.seq f)) ∧ (b = false → Go K A tw S (E.seq f)) :=
  ⟨fun h => go_cut (E := E.seq f) P (h1 h) h3, fun h => go_cut (E := E.seq f) P (h2 h) h3⟩
/-! ### targets of comprehensions, in short -/
structure TsOk (u : TGs) (vs : List Nat) : Prop where
  mono : TsMono u
  only : TsOnly u vs
theorem tok_nil : TsOk gNil vs := ⟨tms_nil, tos_nil⟩
theorem tok_name {i : Nat} (h : i ∈ vs) (o : TsOk u vs) : TsOk (gCons (gName i) u) vs := ⟨tms_cons tm_name o.mono, tos_cons tm_name o.mono (to_name h) o.only⟩
theorem tok_tup {n : Nat} (o' : TsOk u' vs) (o : TsOk u vs) : TsOk (gCons (gTup K n u') u) vs := ⟨tms_cons (tm_tup o'.mono) o.mono, tos_cons (tm_tup o'.mono) o.mono (to_tup o'.only) o.only⟩
theorem to_tupK {n : Nat} (o : TsOk u vs) : TOnly (gTup K n u) vs := to_tup o.only
theorem wpp_nil {k : Amb → List (SV × SV) → Prop} (h : k A []) : WpP K [] A S k := h
theorem wpp_cons {r : List (TE × TE)} {k : Amb → List (SV × SV) → Prop} (h : Wp K A tk S fun A1 s1 => Wp K A1 tv S fun A2 s2 => WpP K r A2 S fun A3 ps => k A3 ((s1, s2) :: ps)) : WpP K ((tk, tv) :: r) A S k := h
end
/-! ### tables with given keys -/
section
variable {κ : Type} [DecidableEq κ] {x y : κ} {v w : SV} {r : List (κ × SV)}
theorem look_hit : lookS ((x, v) :: r) x = some v := by simp [lookS]
theorem look_miss (h : ¬ y = x) : lookS ((y, v) :: r) x = lookS r x := by
  unfold lookS
  rw [List.find?_cons, decide_eq_false h]
theorem map_out (h : x ∉ r.map (·.1)) : (r.map fun kv => if kv.1 = x then (kv.1, v) else kv) = r := by
  induction r with
  | nil => rfl
  | cons a r ih =>
    rw [List.map_cons, List.mem_cons, not_or] at h
    rw [List.map_cons, ih h.2, if_neg fun e => h.1 e.symm]
theorem any_out (h : x ∉ r.map (·.1)) : (r.any fun kv => decide (kv.1 = x)) = false := by
  induction r with
  | nil => rfl
  | cons a r ih =>
    rw [List.map_cons, List.mem_cons, not_or] at h
    rw [List.any_cons, ih h.2, decide_eq_false fun e => h.1 e.symm]
    rfl
theorem put_hit (h : x ∉ r.map (·.1)) : putS ((x, w) :: r) x v = (x, v) :: r := by
  unfold putS
  rw [List.any_cons, decide_eq_true rfl, Bool.true_or, if_pos rfl, List.map_cons, if_pos rfl, map_out h]
theorem put_miss (h : ¬ y = x) : putS ((y, w) :: r) x v = (y, w) :: putS r x v := by
  unfold putS
  rw [List.any_cons, decide_eq_false h, Bool.false_or, List.map_cons, if_neg h]
  split <;> rfl
theorem put_out (h : x ∉ r.map (·.1)) : putS r x v = r ++ [(x, v)] := by
  unfold putS
  rw [any_out h, if_neg Bool.false_ne_true]
end
theorem merge_nodup_aux : ∀ (more kvs : List (Key × SV)), ((kvs ++ more).map (·.1)).Nodup → mergeS kvs more = kvs ++ more
  | [], kvs, _ => by simp [mergeS]
  | a :: more, kvs, h => by
    have h1 : a.1 ∉ kvs.map (·.1) := fun hm => by
      rw [List.map_append, List.nodup_append] at h
      exact h.2.2 _ hm _ (by simp) rfl
    show mergeS (putS kvs a.1 a.2) more = _
    rw [put_out h1, merge_nodup_aux more (kvs ++ [(a.1, a.2)]) (by simpa using h)]
    simp
theorem merge_nodup {kvs : List (Key × SV)} (h : (kvs.map (·.1)).Nodup) : mergeS [] kvs = kvs := merge_nodup_aux kvs [] h
end DL

/-! The rules with the written part named (so they may stand within a comprehension). -/
namespace DL
open PySem L2
section
variable {X : Cx}
theorem ixK (K : PySem.W.Frag) (h : X.K = K := by rfl) : IxR X (rIx K) := h ▸ ix_seq
theorem op_eqK (K : PySem.W.Frag) (hu : X.A.units + 65 < cLine) (h : X.K = K := by rfl) : OpR X (compareOp .Eq) (rEqD K) := h ▸ op_eqA hu
theorem op_neK (K : PySem.W.Frag) (hu : X.A.units + 65 < cLine) (h : X.K = K := by rfl) : OpR X (compareOp .NotEq) (rNeD K) := h ▸ op_neA hu
theorem op_inK (K : PySem.W.Frag) (hu : X.A.units + 65 < cLine) (h : X.K = K := by rfl) : OpR X (compareOp .In) (rInTD K) := h ▸ op_inTD hu
theorem op_niK (K : PySem.W.Frag) (hu : X.A.units + 65 < cLine) (h : X.K = K := by rfl) : OpR X (compareOp .NotIn) (rNotInTD K) := h ▸ op_notInTD hu
theorem call_lenK (K : PySem.W.Frag) (h : X.K = K := by rfl) : CallR X (.builtin "len") (rLenD K) := h ▸ call_lenA
theorem call_listK (K : PySem.W.Frag) (h : X.K = K := by rfl) : CallR X (.type "list") (rListD2 K) := h ▸ call_listA
theorem call_tupK (K : PySem.W.Frag) (h : X.K = K := by rfl) : CallR X (.type "tuple") (rTupD2 K) := h ▸ call_tupA
theorem cr_sortK (K : PySem.W.Frag) (hu : X.A.units + 65 < cLine) (h : X.K = K := by rfl) : CallR X (.builtin "sorted") (rSortedD K) := h ▸ cr_sortedD hu
theorem cr_reprK (K : PySem.W.Frag) (hu : X.A.units + 65 < cLine) (hg : X.A.guards = some []) (h : X.K = K := by rfl) : CallR X (.builtin "repr") (rReprD K) := h ▸ cr_reprD hu hg
theorem call_isiK2 (K : PySem.W.Frag) (h : X.K = K := by rfl) : CallR X (.builtin "isinstance") (rIsiD K) := h ▸ call_isiD
theorem pi_listK {tg l : Expr} {tl : TE} (K : PySem.W.Frag) (hl : PE X l tl) (h : X.K = K := by rfl) : PI X tg l (iList K tl) := h ▸ pi_list hl
theorem pi_tupK {tg l : Expr} {tl : TE} (K : PySem.W.Frag) (hl : PE X l tl) (h : X.K = K := by rfl) : PI X tg l (iTup K tl) := h ▸ pi_tup hl
theorem pg_tupK {es : List Expr} {k : Nat} {pos : Pos} {t : TGs} (K : PySem.W.Frag) (n : Nat) (hc : X.calm = true) (hp : PGs X es t) (hn : (assignEach es X.env).length = n := by rfl) (hst : (assignEach es X.env).findIdx? (·.1) = none := by rfl) (h : X.K = K := by rfl) : PG X (.Tuple es k pos) (gTup K n t) := h ▸ pg_tup hc hp hn hst
end
end DL

/-! How long what repr tells is. -/
namespace DL
open PySem L2
theorem str_app_len (a b : Str) : (a ++ b).length = a.length + b.length := Str.length_append a b
theorem textFrom_le : ∀ (ts : List Str) (j : Nat) (acc : Str), (textFrom j acc ts).length ≤ acc.length + piled ts
  | [], j, acc => by simp [textFrom]
  | t :: r, j, acc => by
    have h := textFrom_le r (j + 1) (acc ++ (if j > 0 then ", " else "" : String) ++ t)
    have e : (textFrom j acc (t :: r)) = textFrom (j + 1) (acc ++ (if j > 0 then ", " else "" : String) ++ t) r := rfl
    rw [e]
    refine Nat.le_trans h ?_
    rw [str_app_len, str_app_len]
    have h2 : ((if j > 0 then ", " else "" : String) : Str).length ≤ 2 := by
      split <;> decide +kernel
    have h3 : piled (t :: r) = t.length + 2 + piled r := by simp [piled] <;> omega
    omega
theorem listText_le (ts : List Str) : (listText ts).length ≤ piled ts + 2 := by
  unfold listText
  rw [str_app_len]
  have h := textFrom_le ts 0 "["
  have h1 : ("[" : Str).length = 1 := by decide +kernel
  have h2 : ("]" : Str).length = 1 := by decide +kernel
  omega
theorem tupleText_le (ts : List Str) : (tupleText ts).length ≤ piled ts + 3 := by
  unfold tupleText
  rw [str_app_len, str_app_len]
  have h1 : ("(" : Str).length = 1 := by decide +kernel
  have h2 : ((if ts.length == 1 then ",)" else ")" : String) : Str).length ≤ 2 := by
    split <;> decide +kernel
  have h3 : (Str.join ", " ts).length ≤ piled ts := by
    cases ts with
    | nil => decide +kernel
    | cons t r =>
      have := join_length_add (t :: r) (by simp)
      omega
  omega
mutual
/-- numbers of few figures, no texts, no dicts -/
def smallD : PyData → Bool
  | .none | .bool _ => true
  | .int i => decide (i.natAbs < 10 ^ 10)
  | .str _ | .dict _ => false
  | .list xs | .tuple xs => smallA xs
def smallA : List PyData → Bool
  | [] => true
  | x :: xs => smallD x && smallA xs
end
mutual
def wtD : PyData → Nat
  | .none | .bool _ => 5
  | .int _ => 11
  | .str _ | .dict _ => 0
  | .list xs | .tuple xs => wtA xs + 3
def wtA : List PyData → Nat
  | [] => 0
  | x :: xs => wtD x + 2 + wtA xs
end
mutual
theorem shown_le : ∀ d : PyData, smallD d = true → d.shown.length ≤ wtD d ∧ d.showable = true ∧ d.hasDict = false
  | .none, _ => ⟨by decide +kernel, by simp [PyData.showable], by simp [PyData.hasDict]⟩
  | .bool b, _ => ⟨by cases b <;> decide +kernel, by simp [PyData.showable], by simp [PyData.hasDict]⟩
  | .int i, h => by
    have h1 : i.natAbs < 10 ^ 10 := by simpa [smallD] using h
    refine ⟨?_, ?_, by simp [PyData.hasDict]⟩
    · show ((toString i : String) : Str).length ≤ 11
      have h2 := int_text_length_le10 (a := i) (k := 10) (by decide) h1
      rw [ofString_length]
      exact h2
    · simp only [PyData.showable, decide_eq_true_eq]
      have h3 : i.natAbs.log2 ≤ 34 := by
        by_cases z : i.natAbs = 0
        · rw [z]; decide
        · have := (Nat.log2_lt z (k := 35)).mpr (by omega)
          omega
      omega
  | .str _, h => by simp [smallD] at h
  | .dict _, h => by simp [smallD] at h
  | .list xs, h => by
    obtain ⟨h1, h2, h3⟩ := shownA_le xs (by simpa [smallD] using h)
    refine ⟨?_, by simpa [PyData.showable] using h2, by simpa [PyData.hasDict] using h3⟩
    have h4 := listText_le (PyData.shownAll xs)
    simp only [PyData.shown, wtD]
    omega
  | .tuple xs, h => by
    obtain ⟨h1, h2, h3⟩ := shownA_le xs (by simpa [smallD] using h)
    refine ⟨?_, by simpa [PyData.showable] using h2, by simpa [PyData.hasDict] using h3⟩
    have h4 := tupleText_le (PyData.shownAll xs)
    simp only [PyData.shown, wtD]
    omega
theorem shownA_le : ∀ xs : List PyData, smallA xs = true → piled (PyData.shownAll xs) ≤ wtA xs ∧ PyData.showableAll xs = true ∧ PyData.hasDictAll xs = false
  | [], _ => ⟨by simp [PyData.shownAll, piled, wtA], by simp [PyData.showableAll], by simp [PyData.hasDictAll]⟩
  | x :: xs, h => by
    simp only [smallA, Bool.and_eq_true] at h
    obtain ⟨h1, h2, h3⟩ := shown_le x h.1
    obtain ⟨h4, h5, h6⟩ := shownA_le xs h.2
    refine ⟨?_, by simp [PyData.showableAll, h2, h5], by simp [PyData.hasDictAll, h3, h6]⟩
    have h7 : piled (PyData.shownAll (x :: xs)) = x.shown.length + 2 + piled (PyData.shownAll xs) := by
      simp [PyData.shownAll, piled] <;> omega
    rw [h7]
    simp only [wtA]
    omega
end
theorem smallA_mem : ∀ {xs : List PyData}, smallA xs = true ↔ ∀ x ∈ xs, smallD x = true
  | [] => by simp [smallA]
  | x :: xs => by simp [smallA, smallA_mem (xs := xs)]
theorem wtA_le {n : Nat} : ∀ {xs : List PyData}, (∀ x ∈ xs, wtD x ≤ n) → wtA xs ≤ xs.length * (n + 2)
  | [], _ => by simp [wtA]
  | x :: xs, h => by
    have h1 := h x List.mem_cons_self
    have h2 := wtA_le (xs := xs) fun y hy => h y (List.mem_cons_of_mem _ hy)
    simp only [wtA, List.length_cons, Nat.succ_mul]
    omega
section
variable {K : PySem.W.Frag} {A : Amb} {k : KA}
/-- repr of a list or tuple of small things -/
theorem cw_reprS {d : PyData} (hc : (∃ ds, d = .list ds) ∨ ∃ ds, d = .tuple ds) (hs : smallD d = true) (hw : wtD d ≤ 1000000) (hd : d.depth ≤ 60) (h : k A (.dat (.str d.shown))) : CW K (rReprD K) [.dat d] A k := by
  obtain ⟨h1, h2, h3⟩ := shown_le d hs
  exact cw_reprD h2 h3 hd (Nat.le_trans h1 (Nat.le_trans hw (by decide))) h
theorem cw_reprSP {p : Addr} {ds : List PyData} (hp : (p, .lst (ds.map .dat)) ∈ A.cells) (hs : smallA ds = true) (hw : wtA ds ≤ 900000) (hd : PyData.depthAll ds ≤ 50) (h : k A (.dat (.str (PyData.list ds).shown))) : CW K (rReprD K) [.ptr p] A k := by
  obtain ⟨h1, h2, h3⟩ := shown_le (.list ds) (by simpa [smallD] using hs)
  refine cw_reprP hp h2 h3 (by simp only [PyData.depth]; omega) (Nat.le_trans h1 (Nat.le_trans (by simp only [wtD]; omega : _ ≤ 1000000) (by decide))) h
theorem cw_reprSL {ds : List PyData} (hs : smallA ds = true) (hw : wtA ds ≤ 900000) (hd : PyData.depthAll ds ≤ 50) (h : k A (.dat (.str (PyData.list ds).shown))) : CW K (rReprD K) [.dat (.list ds)] A k :=
  cw_reprS (.inl ⟨_, rfl⟩) (by simpa [smallD] using hs) (by simp only [wtD]; omega) (by simp only [PyData.depth]; omega) h
end
end DL

/-! sum of lists, from a list on. -/
namespace DL
open PySem L2
open Sem (wp)
section
variable {prog : Program} {w : World} {A : Around} {R : Result → Shared → Prop}
abbrev lobj (its : List Value) (n : Nat) : Obj := { cls := .type "list", data := .seq its.toArray n }
theorem args_sum2 (a b : Value) : argsOk "sum" ⟨[a, b], []⟩ := by unfold argsOk; kernel_rfl
theorem codeAny_sumL {h₀ : Heap} {I ax : Addr} {its : Array Value} {rows : List (List Value)} (W : Walks prog w A.in1 I [I, ax] [I] its.size (fun i v => its[i]? = some v) (fun i h => h.IsListIter I ax i ∧ h.IsList ax its))
    (hI : h₀.get? I = none) (S : Addr) (hS0 : h₀.objs.size ≤ S) (hSI : S ≠ I) (hSa : S ≠ ax)
    (hrows : ∀ (i : Nat) (v : Value), its[i]? = some v → ∃ (b : Addr) (vs : List Value) (n : Nat), v = Value.ref b ∧ rows[i]? = some vs ∧ h₀.get? b = some (lobj vs n)) (hlen : rows.length = its.size) (hz : (rows.map List.length).sum ≤ sizeLine) :
    ∀ (k i : Nat) (s : Shared) (T : Addr) (acc : List Value) (n c : Nat), its.size - i = k → i ≤ its.size → s.heap.IsListIter I ax i ∧ s.heap.IsList ax its → s.heap.get? S = some { cls := .type "list", dict := none, data := .seq #[.ref T] c, slots := #[] } →
    s.heap.get? T = some (lobj acc n) → T ≠ I → T ≠ S → acc.length ≤ ((rows.take i).map List.length).sum → (∀ b o, h₀.get? b = some o → s.heap.get? b = some o) →
    (∀ h' tk T' n', (∀ b o, h₀.get? b = some o → h'.get? b = some o) → h'.get? T' = some (lobj (acc ++ (rows.drop i).flatten) n') → (i = its.size → T' = T) → (i < its.size → h₀.objs.size ≤ T') → R (.ok (.ret (.ref T'))) { s with heap := h', toks := tk }) →
    codeAny (model prog w) A (.builtin "sum.loop" ⟨[.ref I, .ref S, rawInt 2, rawInt 0], []⟩) R s := by
  intro k
  induction k with
  | zero =>
    intro i s T acc n c hk hi hst hS hT hTI hTS ha hb hR
    have hin : i = its.size := by omega
    refine codeAny_builtin PySem.F.entry_sum_loop ?_
    rw [Around.under_plainId PySem.F.plain_sum_loop _]
    show wpAny _ A.in1 (seqItems? (.ref S) >>= _) _ _ s
    refine wpAny_bind (wpAny_seqItems hS rfl ?_)
    show wpAny _ A.in1 (tryCatch (pyNext (.ref I)) _ >>= _) _ _ s
    refine wpAny_bind (wpAny_tryCatch (W.done s _ _ (hin ▸ hst) fun h' tk hk' => ?_))
    refine wpAny_pure (hR h' tk T n (fun b o e => hk' b o (fun hm => ?_) (hb b o e)) ?_ (fun _ => rfl) (fun hlt => absurd hlt (by omega)))
    · rw [List.mem_singleton.mp hm, hI] at e
      cases e
    · rw [List.drop_of_length_le (by omega), List.flatten_nil, List.append_nil]
      exact hk' _ _ (fun hm => hTI (List.mem_singleton.mp hm)) hT
  | succ k ih =>
    intro i s T acc n c hk hi hst hS hT hTI hTS ha hb hR
    have hlt : i < its.size := by omega
    refine codeAny_builtin PySem.F.entry_sum_loop ?_
    rw [Around.under_plainId PySem.F.plain_sum_loop _]
    show wpAny _ A.in1 (seqItems? (.ref S) >>= _) _ _ s
    refine wpAny_bind (wpAny_seqItems hS rfl ?_)
    show wpAny _ A.in1 (tryCatch (pyNext (.ref I)) _ >>= _) _ _ s
    refine wpAny_bind (wpAny_tryCatch (W.item i s _ _ hlt hst fun v h' tk hP hst' hk' => ?_))
    obtain ⟨b, vs, nb, rfl, hr, hbo⟩ := hrows i v hP
    have hS' := hk' S _ (fun hm => hSI (List.mem_singleton.mp hm)) hS
    have hT' := hk' T _ (fun hm => hTI (List.mem_singleton.mp hm)) hT
    have hb0 : ∀ c o, h₀.get? c = some o → h'.get? c = some o := fun c o e => hk' c o (fun hm => by rw [List.mem_singleton.mp hm, hI] at e; cases e) (hb c o e)
    have hb' := hb0 b _ hbo
    have hsum : ((rows.take (i + 1)).map List.length).sum = ((rows.take i).map List.length).sum + vs.length := by
      rw [List.take_add_one, hr]; simp
    have hle : ((rows.take (i + 1)).map List.length).sum ≤ (rows.map List.length).sum := by
      have e := congrArg (fun l => (l.map List.length).sum) (List.take_append_drop (i + 1) rows)
      simp only [List.map_append, List.sum_append] at e
      omega
    have hz2 : acc.toArray.size + vs.toArray.size ≤ sizeLine := by
      rw [List.size_toArray, List.size_toArray]
      omega
    show wpAny _ A.in1 ((holding [Value.ref b] (binaryOp .Add (.ref T) (.ref b))).attempt >>= _) _ _ _
    refine wpAny_bind (wpAny_attempt (wpAny_holding (PySem.P.add_list hT' hb' ?_ hz2)))
    have ea : acc.toArray ++ vs.toArray = (acc ++ vs).toArray := by simp
    rw [ea]
    have hSlt : S < h'.objs.size := Heap.lt_size hS'
    have hsz : h₀.objs.size ≤ h'.objs.size := Nat.le_trans hS0 (Nat.le_of_lt hSlt)
    have hIlt : I < h'.objs.size := by obtain ⟨_, e, _⟩ := hst'.1; exact Heap.lt_size e
    have hnT : (h'.push (lobj (acc ++ vs) 0)).get? h'.objs.size = some (lobj (acc ++ vs) 0) := Heap.get?_push_size _ rfl
    have hnS := Heap.get?_push_of_some (lobj (acc ++ vs) 0) hS'
    refine wpAny_bind (wpAny_updateSeq hnS rfl ?_)
    have hS₂ := Heap.get?_update_self (Obj.mapSeq fun _ => #[Value.ref h'.objs.size]) hnS rfl
    refine wpAny_bind (wpAny_letGo ?_)
    refine wpAny_bind (wpAny_updateSeq hS₂ rfl (wpAny_pure ⟨plainId_quiet PySem.F.plain_sum_loop _, ?_⟩))
    have up : ∀ b o, b ≠ S → h'.get? b = some o → (((h'.push (lobj (acc ++ vs) 0)).update S (Obj.mapSeq fun _ => #[Value.ref h'.objs.size])).update S (Obj.mapSeq fun _ => #[Value.ref h'.objs.size])).get? b = some o := fun b o hne e =>
      (Heap.get?_update_other _ _ (Ne.symm hne)).trans ((Heap.get?_update_other _ _ (Ne.symm hne)).trans (Heap.get?_push_of_some _ e))
    refine ih (i + 1) _ h'.objs.size (acc ++ vs) 0 _ (by omega) hlt (W.frame _ _ _ hst' fun b hb o e => up b o ?_ e) (Heap.get?_update_self _ hS₂ rfl) ?_ (Nat.ne_of_gt hIlt) (Nat.ne_of_gt hSlt) (by rw [List.length_append]; omega) (fun b o e => up b o ?_ (hb0 b o e)) fun h3 tk3 T3 n3 k3 e3 l3 g3 => ?_
    · intro e2
      subst e2
      rcases List.mem_cons.mp hb with e2 | hb
      · exact hSI e2
      · exact hSa (List.mem_singleton.mp hb)
    · exact (Heap.get?_update_other _ _ (Nat.ne_of_lt hSlt)).trans ((Heap.get?_update_other _ _ (Nat.ne_of_lt hSlt)).trans hnT)
    · intro e2
      subst e2
      exact Nat.lt_irrefl _ (Nat.lt_of_lt_of_le (Heap.lt_size e) hS0)
    · refine hR h3 tk3 T3 n3 k3 ?_ (fun e => absurd e (by omega)) fun _ => ?_
      · have e4 : rows.drop i = vs :: rows.drop (i + 1) := by
          have hi2 := (List.getElem?_eq_some_iff.mp hr).1
          rw [List.drop_eq_getElem_cons hi2]
          congr 1
          exact (List.getElem?_eq_some_iff.mp hr).2
        rw [e4, List.flatten_cons, ← List.append_assoc]
        exact e3
      · by_cases e : i + 1 < its.size
        · exact g3 e
        · rw [l3 (by omega)]
          exact hsz
theorem call_sumL_raw {E : Value → Shared → Prop} {s : Shared} {l b0 : Addr} {its : Array Value} {rows : List (List Value)} {n0 : Nat} {Q : Value → Shared → Prop} (hh : A.handled = none) (hl : s.heap.IsList l its) (hb : s.heap.get? b0 = some (lobj [] n0))
    (hrows : ∀ (i : Nat) (v : Value), its[i]? = some v → ∃ (b : Addr) (vs : List Value) (n : Nat), v = Value.ref b ∧ rows[i]? = some vs ∧ s.heap.get? b = some (lobj vs n)) (hlen : rows.length = its.size) (hz : (rows.map List.length).sum ≤ sizeLine)
    (h : ∀ h' tk T n, (∀ b o, s.heap.get? b = some o → h'.get? b = some o) → h'.get? T = some (lobj rows.flatten n) → (its.size = 0 → T = b0) → (0 < its.size → s.heap.objs.size ≤ T) → Q (.ref T) { s with heap := h', toks := tk }) :
    wpAny (model prog w) A (call (.builtin "sum") [.ref l, .ref b0]) Q E s := by
  refine call_function_tree PySem.F.kind_sum PySem.F.plain_sum PySem.F.entry_sum (args_sum2 _ _) ?_
  unfold Builtin.«sum»
  simp only [List.length_cons, List.length_nil]
  rw [if_neg (by decide)]
  refine wpAny_bind (wpAny_of_eq (show Builtin.Builtins.bindParams "sum" ["start"] 0 ⟨[.ref b0], []⟩ = pure [some (.ref b0)] from rfl) ?_)
  refine wpAny_bind (PySem.Flt.iter_list_ hl fun s₂ e st hfp hlI => ?_)
  subst e
  refine wpAny_bind (wpAny_pure ?_)
  simp only [List.forIn_cons, List.forIn_nil]
  have hb2 := Heap.get?_push_of_some { cls := .type "list_iterator", data := .fields #[.ref l, .int 0 0] } hb
  have hT : Shared.TypeIs { s with heap := s.heap.push { cls := .type "list_iterator", data := .fields #[.ref l, .int 0 0] } } (.ref b0) "list" := ⟨_, hb2, rfl⟩
  refine wpAny_bind (wpAny_bind (wpAny_bind (wpAny_isInstance (T := "list") (b := false) hT PySem.F.sub_list_str ?_)))
  simp only [Bool.false_eq_true, if_false]
  refine wpAny_pure (wpAny_bind (wpAny_bind (wpAny_isInstance (T := "list") (b := false) hT PySem.F.sub_list_bytes ?_)))
  simp only [Bool.false_eq_true, if_false]
  refine wpAny_pure (wpAny_bind (wpAny_bind (wpAny_isInstance (T := "list") (b := false) hT PySem.F.sub_list_bytearray ?_)))
  simp only [Bool.false_eq_true, if_false]
  refine wpAny_pure (wpAny_pure ?_)
  refine wpAny_bind (wpAny_newObj_type ?_)
  have hsz1 : (s.heap.push { cls := .type "list_iterator", data := .fields #[.ref l, .int 0 0] }).objs.size = s.heap.objs.size + 1 := Heap.size_push ..
  have hnone : s.heap.get? s.heap.objs.size = none := by
    cases e : s.heap.get? s.heap.objs.size with
    | none => rfl
    | some o => exact absurd (Heap.lt_size e) (Nat.lt_irrefl _)
  have up : ∀ b o, s.heap.get? b = some o → ((s.heap.push { cls := .type "list_iterator", data := .fields #[.ref l, .int 0 0] }).push { cls := .type "list", data := .seq #[.ref b0] }).get? b = some o := fun b o e => Heap.get?_push_of_some _ (Heap.get?_push_of_some _ e)
  have hlt : l < s.heap.objs.size := by obtain ⟨_, e, _⟩ := hl; exact Heap.lt_size e
  have hb0 : b0 < s.heap.objs.size := Heap.lt_size hb
  refine wpAny_pure ⟨plainId_quiet PySem.F.plain_sum_loop _, codeAny_sumL (h₀ := s.heap) (rows := rows) (Walks.list (A := A.in1) hh _ l hlI its) hnone _ (by rw [hsz1]; exact Nat.le_succ _) (by rw [hsz1]; exact Nat.succ_ne_self _) (by rw [hsz1]; exact Nat.ne_of_gt (Nat.lt_succ_of_lt hlt))
    hrows hlen hz its.size 0 _ b0 [] n0 0 rfl (Nat.zero_le _) ⟨?_, ?_⟩ (Heap.get?_push_size _ rfl) (up _ _ hb) (Nat.ne_of_lt hb0) (by rw [hsz1]; exact Nat.ne_of_lt (Nat.lt_succ_of_lt hb0)) (Nat.zero_le _) up fun h' tk T' n' k e l1 g => ?_⟩
  · obtain ⟨o, e, a, b⟩ := st.1
    exact ⟨o, Heap.get?_push_of_some _ e, a, b⟩
  · exact st.2.push _
  · exact h h' tk T' n' k (by simpa using e) (fun e => l1 e.symm) g
end
inductive RowsOf (H : Hp) : List V → List (List V) → Prop
  | nil : RowsOf H [] []
  | cons {b : Addr} {ys : List V} {vs : List V} {yss : List (List V)} : H b = some (.lst ys) → RowsOf H vs yss → RowsOf H (.ref b :: vs) (ys :: yss)
def rSumL (K : PySem.W.Frag) : List V → Hp → VK → Prop := fun vs H Q => ∃ (a b0 : Addr) (xs : List V) (yss : List (List V)), vs = [V.ref a, V.ref b0] ∧ SqL K H a xs ∧ H b0 = some (.lst []) ∧ RowsOf H xs yss ∧ (yss.map List.length).sum ≤ sizeLine ∧
  (xs = [] → Q (.ref b0) H) ∧ (∀ T, H T = none → Q (.ref T) (upd H T (.lst yss.flatten)))
section
variable {X : Cx} {pins : List (Addr × Obj)} {σ : St} {H : Hp} {s : Shared}
theorem rows_raw (I : Inv X pins σ H s) : ∀ {xs : List V} {yss : List (List V)} {its : List Value}, RowsOf H xs yss → Vals xs its → ∃ rows : List (List Value), rows.length = its.length ∧ Vals yss.flatten rows.flatten ∧ (rows.map List.length).sum = (yss.map List.length).sum ∧
    ∀ (i : Nat) (v : Value), its[i]? = some v → ∃ (b : Addr) (vs : List Value) (n : Nat), v = Value.ref b ∧ rows[i]? = some vs ∧ s.heap.get? b = some (lobj vs n)
  | _, _, _, .nil, .nil => ⟨[], rfl, .nil, rfl, fun i v e => by simp at e⟩
  | _, _, _, .cons hb hr, .cons r1 r2 => by
    obtain ⟨rows, h1, h2, h3, h4⟩ := rows_raw I hr r2
    obtain ⟨_, its, n, r, hl, e⟩ := I.lstM hb
    cases r1
    refine ⟨its :: rows, by simp [h1], ?_, by simp [h3, hl], fun i v hv => ?_⟩
    · rw [List.flatten_cons, List.flatten_cons]
      exact r.append h2
    · cases i with
      | zero =>
        simp at hv
        subst hv
        exact ⟨_, its, n, rfl, rfl, e⟩
      | succ i => exact h4 i v (by simpa using hv)
theorem call_sumL (hc : X.calm = true) : CallR X (.builtin "sum") (rSumL X.K) := by
  intro pins s σ H vs us Q I r h
  obtain ⟨a, b0, xs, yss, rfl, hs, hb, hr, hz, q0, q1⟩ := h
  obtain ⟨its, rv, hl, _⟩ := I.list hs
  obtain ⟨_, ib, nb, rb, lb, eb⟩ := I.lstM hb
  cases rb
  obtain ⟨rows, e1, e2, e3, e4⟩ := rows_raw I hr rv
  have hus : us = [.ref a, .ref b0] := by
    cases r with
    | cons ra r =>
      cases r with
      | cons rb r =>
        cases r
        cases ra
        cases rb
        rfl
  rw [hus]
  refine call_sumL_raw (rows := rows) (I.ok.hd hc) hl.isList eb (by simpa using e4) (by simp [e1]) (by rw [e3]; exact hz) fun h' tk T n k hT l0 g => ?_
  by_cases hx : xs = []
  · subst hx
    cases rv
    rw [l0 rfl]
    exact ⟨.ref _, H, I.kept k, rfl, q0 rfl⟩
  · have hp : 0 < its.toArray.size := by
      have := rv.length
      have : xs.length ≠ 0 := fun e => hx (List.eq_nil_of_length_eq_zero e)
      rw [List.size_toArray]
      omega
    have hf : yss.flatten.length ≤ sizeLine := by rw [List.length_flatten]; exact hz
    exact ⟨.ref T, _, I.laid (o := .lst yss.flatten) k (g hp) ⟨hf, _, n, e2, hT⟩, rfl, q1 T (I.hok.fresh (g hp))⟩
end
theorem call_sumLK (K : PySem.W.Frag) {X : Cx} (hc : X.calm = true) (hK : X.K = K := by rfl) : CallR X (.builtin "sum") (rSumL K) := by
  subst hK
  exact call_sumL hc
section
variable {K : PySem.W.Frag} {A : Amb} {k : Amb → SV → Prop}
theorem rows_of {F : Hp} : ∀ {xs : List V} {dss : List (List PyData)}, DtAll K F xs (dss.map PyData.list) → ∃ yss, RowsOf F xs yss ∧ DtAll K F yss.flatten dss.flatten ∧ (yss.map List.length).sum = (dss.map List.length).sum
  | _, [], .nil => ⟨[], .nil, .nil, rfl⟩
  | _, d :: ds, .cons h1 h2 => by
    obtain ⟨yss, h3, h4, h5⟩ := rows_of h2
    cases h1 with
    | lst e r => exact ⟨_ :: yss, .cons e h3, r.append h4, by simp [h5, r.length]⟩
theorem RowsOf.mono {F F' : Hp} (e : Same F F') : ∀ {xs : List V} {yss : List (List V)}, RowsOf F xs yss → RowsOf F' xs yss
  | _, _, .nil => .nil
  | _, _, .cons h r => .cons (e _ _ h) (RowsOf.mono e r)
/-- sum of data lists, from [] on -/
theorem cw_sumL {dss : List (List PyData)} (hz : (dss.map List.length).sum ≤ sizeLine) (h : k A (.dat (.list dss.flatten))) : CW K (rSumL K) [.dat (.list (dss.map PyData.list)), .dat (.list [])] A k := fun R F H vs Q a r q => by
  obtain ⟨v, w, rfl, r1, r2⟩ := two_of r
  obtain ⟨p, xs, rfl, h1, h2⟩ := sr_lst r1
  obtain ⟨p2, xs2, rfl, h3, h4⟩ := sr_lst r2
  cases h4
  obtain ⟨yss, e1, e2, e3⟩ := rows_of h2
  refine ⟨p, p2, xs, yss, rfl, .inl (.inl (a.same _ _ h1)), a.same _ _ h3, e1.mono a.same, by rw [e3]; exact hz, fun hx => ?_, fun T hT => ?_⟩
  · subst hx
    cases e1
    cases dss with
    | cons _ _ => cases h2
    | nil => exact q A _ _ F H h (Same.refl F) a r2
  · obtain ⟨a2, e4⟩ := a.alloc (o := .lst yss.flatten) hT
    exact q A _ _ _ _ h e4 a2 (.lst upd_same (e2.mono e4))
end
end DL

/-! Slices, texts, lists that are written to. -/
namespace DL
open PySem L2
def WpO (K : PySem.W.Frag) (A : Amb) (t : TO) (S : List SV) (k : Amb → Option Int → Prop) : Prop := ∀ R F σ H (Q : Option Int → Hp → Prop), AtR K A R F H → SD K F σ S → (∀ A1 o F1 H1, k A1 o → Same F F1 → AtR K A1 R F1 H1 → Q o H1) → t σ H Q
def SW (K : PySem.W.Frag) (r : V → Option Int → Option Int → Hp → VK → Prop) (s : SV) (lo hi : Option Int) (A : Amb) (k : KA) : Prop := ∀ R F H v Q, AtR K A R F H → SR K F v s → OutV K R F Q k → r v lo hi H Q
section
variable {K : PySem.W.Frag} {A A' : Amb} {S S' : List SV} {k k' : KA} {ta tb te : TE} {tl th : TO} {t u : TT} {r : R2} {s s1 s2 : SV} {E : DE}
theorem wpo_none {k : Amb → Option Int → Prop} (h : k A none) : WpO K A tNoPart S k := fun R F σ H Q a sd q => q A none F H h (Same.refl F) a
theorem wpo_some {k : Amb → Option Int → Prop} (h : Wp K A te S fun A1 s => ∃ i, s = .dat (.int i) ∧ k A1 (some i)) : WpO K A (tPart te) S k := fun R F σ H Q a sd q =>
  h R F σ H _ a sd fun A1 s v F1 H1 ⟨i, hs, hk⟩ e1 a1 r1 => by
    subst hs
    exact ⟨i, sr_int r1, q A1 _ F1 H1 hk e1 a1⟩
theorem wp_sl {r : V → Option Int → Option Int → Hp → VK → Prop} (h : Wp K A te S fun A1 s => WpO K A1 tl S fun A2 lo => WpO K A2 th S fun A3 hi => SW K r s lo hi A3 k) : Wp K A (tSl r te tl th) S k := fun R F σ H Q a sd q =>
  h R F σ H _ a sd fun A1 s v F1 H1 h1 e1 a1 r1 => h1 R F1 σ H1 _ a1 (sd.mono e1) fun A2 lo F2 H2 h2 e2 a2 => h2 R F2 σ H2 _ a2 ((sd.mono e1).mono e2) fun A3 hi F3 H3 h3 e3 a3 =>
    h3 R F3 H3 v Q a3 ((r1.mono e2).mono e3) (q.mono ((e1.trans e2).trans e3))
/-- what a slice keeps -/
def cutD {α : Type} (xs : List α) (lo hi : Option Int) : List α := (xs.drop (HT.sIx xs.length 0 lo)).take (HT.sIx xs.length xs.length hi - HT.sIx xs.length 0 lo)
theorem cutD_map {α β : Type} (f : α → β) (xs : List α) (lo hi : Option Int) : cutD (xs.map f) lo hi = (cutD xs lo hi).map f := by
  unfold cutD
  rw [List.length_map, List.map_take, List.map_drop]
theorem cut_dt {F : Hp} {xs : List V} {ds : List PyData} (h : DtAll K F xs ds) (lo hi : Option Int) : DtAll K F (cutV xs lo hi) (cutD ds lo hi) := by
  unfold cutV cutD
  rw [h.length]
  exact (h.drop _).take _
theorem cut_whole {α : Type} {xs : List α} {lo hi : Option Int} (h : HT.sIx xs.length 0 lo = 0 ∧ HT.sIx xs.length xs.length hi = xs.length) : cutD xs lo hi = xs := by
  unfold cutD
  rw [h.1, h.2, List.drop_zero, Nat.sub_zero, List.take_length]
theorem sl_listK (K : PySem.W.Frag) {X : Cx} (h : X.K = K := by rfl) : SlR X (rSlL K) := h ▸ sl_list
theorem sl_tupK (K : PySem.W.Frag) {X : Cx} (h : X.K = K := by rfl) : SlR X (rSlA K) := h ▸ sl_tupA
theorem sw_list {ds : List PyData} {lo hi : Option Int} (h : k A (.dat (.list (cutD ds lo hi)))) : SW K (rSlL K) (.dat (.list ds)) lo hi A k := fun R F H v Q a r q => by
  obtain ⟨p, xs, rfl, h1, h2⟩ := sr_lst r
  refine ⟨p, xs, rfl, .inl (.inl (a.same _ _ h1)), fun n hn => ?_⟩
  obtain ⟨a2, e2⟩ := a.alloc (o := .lst (cutV xs lo hi)) hn
  exact q A _ _ _ _ h e2 a2 (.lst upd_same ((cut_dt h2 lo hi).mono e2))
theorem ints_dt (F : Hp) : ∀ ms : List Int, DtAll K F (ms.map V.int) (ms.map PyData.int)
  | [] => .nil
  | m :: ms => .cons (.int m) (ints_dt F ms)
theorem sw_scr {ns : List Int} {lo hi : Option Int} (h : k A (.dat (.list ((cutD ns lo hi).map .int)))) : SW K (rSlL K) (.scr ns) lo hi A k := fun R F H v Q a r q => by
  obtain ⟨p, rfl, h1⟩ := r
  refine ⟨p, _, rfl, a.same.seq h1, fun n hn => ?_⟩
  obtain ⟨a2, e2⟩ := a.alloc (o := .lst (cutV (ns.map V.int) lo hi)) hn
  have e : cutV (ns.map V.int) lo hi = (cutD ns lo hi).map V.int := cutD_map V.int ns lo hi
  exact q A _ _ _ _ h e2 a2 (.lst upd_same (e ▸ ints_dt _ _))
theorem sw_tup {ds : List PyData} {lo hi : Option Int} (h : k A (.dat (.tuple (cutD ds lo hi)))) : SW K (rSlA K) (.dat (.tuple ds)) lo hi A k := fun R F H v Q a r q => by
  obtain ⟨p, xs, rfl, h1, h2⟩ := sr_tup r
  refine ⟨p, xs, rfl, same_t a.same h1, fun hw => ?_, fun _ n hn => ?_⟩
  · refine q A _ _ F H h (Same.refl F) a (.tup h1 ?_)
    have e : cutD ds lo hi = ds := cut_whole (by rw [← h2.length]; exact hw)
    rw [e]
    exact h2
  · obtain ⟨a2, e2⟩ := a.alloc (o := .tup (cutV xs lo hi)) hn
    exact q A _ _ _ _ h e2 a2 (.tup (SqT.of upd_same) ((cut_dt h2 lo hi).mono e2))
theorem sw_str {z : Str} {lo hi : Option Int} (hz : z.length ≤ sizeLine) (h : k A (.dat (.str (cutS z lo hi)))) : SW K rSlS (.dat (.str z)) lo hi A k := fun R F H v Q a r q => by
  obtain rfl := sr_str r
  exact ⟨z, rfl, hz, q A _ _ F H h (Same.refl F) a (.str _)⟩
/-! ### texts -/
def rAddS : R2 := fun x y H Q => ∃ i j, x = .str i ∧ y = .str j ∧ i.length + j.length ≤ sizeLine ∧ Q (.str (i ++ j)) H
theorem op_addS {X : Cx} : OpR X (binaryOp .Add) rAddS := op_add_str
theorem rw_addS {x y : Str} (hl : x.length + y.length ≤ sizeLine) (h : k A (.dat (.str (x ++ y)))) : RW K rAddS (.dat (.str x)) (.dat (.str y)) A k := fun R F H v w Q a r1 r2 q => by
  obtain rfl := sr_str r1
  obtain rfl := sr_str r2
  exact ⟨x, y, rfl, rfl, hl, q A _ _ F H h (Same.refl F) a (.str _)⟩
def rInC : R2 := fun x y H Q => ∃ (c : Nat) (z : Str), x = .str ⟨#[c]⟩ ∧ y = .str z ∧ Q (.bl (decide (c ∈ z.cps.toList))) H
theorem op_inC {X : Cx} : OpR X (compareOp .In) rInC := op_in_sign
def rNiC : R2 := fun x y H Q => ∃ (c : Nat) (z : Str), x = .str ⟨#[c]⟩ ∧ y = .str z ∧ Q (.bl (!decide (c ∈ z.cps.toList))) H
theorem op_niC {X : Cx} : OpR X (compareOp .NotIn) rNiC := op_notIn_sign
theorem rw_inC {c : Nat} {z : Str} (h : k A (.dat (.bool (decide (c ∈ z.cps.toList))))) : RW K rInC (.dat (.str ⟨#[c]⟩)) (.dat (.str z)) A k := fun R F H v w Q a r1 r2 q => by
  obtain rfl := sr_str r1
  obtain rfl := sr_str r2
  exact ⟨c, z, rfl, rfl, q A _ _ F H h (Same.refl F) a (.bl _)⟩
theorem rw_niC {c : Nat} {z : Str} (h : k A (.dat (.bool (!decide (c ∈ z.cps.toList))))) : RW K rNiC (.dat (.str ⟨#[c]⟩)) (.dat (.str z)) A k := fun R F H v w Q a r1 r2 q => by
  obtain rfl := sr_str r1
  obtain rfl := sr_str r2
  exact ⟨c, z, rfl, rfl, q A _ _ F H h (Same.refl F) a (.bl _)⟩
def rLeS : R2 := fun x y H Q => ∃ i j, x = .str i ∧ y = .str j ∧ Q (.bl (!decide (j.cps.toList < i.cps.toList))) H
theorem op_leS {X : Cx} : OpR X (compareOp .LtE) rLeS := op_le_str
theorem rw_leS {x y : Str} (h : k A (.dat (.bool (!decide (y.cps.toList < x.cps.toList))))) : RW K rLeS (.dat (.str x)) (.dat (.str y)) A k := fun R F H v w Q a r1 r2 q => by
  obtain rfl := sr_str r1
  obtain rfl := sr_str r2
  exact ⟨x, y, rfl, rfl, q A _ _ F H h (Same.refl F) a (.bl _)⟩
abbrev sig1 (c : Nat) : PyData := .str ⟨#[c]⟩
theorem iw_str {k : KS} (h : Wp K A te S fun A1 s => ∃ x : Str, s = .dat (.str x) ∧ k A1 ((x.cps.toList.map sig1).map .dat)) : IW K A (iStr te) S k := fun R F σ H Q a sd q =>
  h R F σ H _ a sd fun A1 s v F1 H1 ⟨x, hs, hk⟩ e1 a1 r1 => by
    subst hs
    obtain rfl := sr_str r1
    refine ⟨x, rfl, q A1 _ F1 H1 _ hk e1 a1 fun A F' H i e at' => ⟨fun hi => ?_, fun s hs => ?_⟩⟩
    · simp only [List.length_map, Array.length_toList] at hi
      exact hi
    · rw [List.map_map, List.getElem?_map, Array.getElem?_toList] at hs
      cases hc : x.cps[i]? with
      | none => rw [hc] at hs; cases hs
      | some c =>
        rw [hc] at hs
        cases hs
        refine ⟨(Array.getElem?_eq_some_iff.mp hc).1, fun z H' y => ?_⟩
        obtain ⟨rfl, c', e1, rfl⟩ := y
        rw [hc] at e1
        cases e1
        exact ⟨F', Same.refl F', at', .str _⟩
/-! ### lists that are owned -/
theorem wp_popAt {ti : TE} (h : Wp K A ta S fun A1 s => ∃ p xs, s = .ptr p ∧ (p, .lst xs) ∈ A1.cells ∧ Wp K A1 ti S fun A2 s2 => ∃ xs l' j x, s2 = .dat (.int (j : Nat)) ∧ j < 1000000 ∧ xs[j]? = some x ∧ Upd A2.cells p (.lst xs) (.lst (xs.eraseIdx j)) l' ∧ k ⟨A2.I, l'⟩ x) :
    Wp K A (tBM K "list" rPopAt ta (tCons ti tNil)) S k := fun R F σ H Q a sd q =>
  h R F σ H _ a sd fun A1 s v F1 H1 ⟨p, xs, hs, hp, hw⟩ e1 a1 r1 => by
    subst hs
    obtain rfl : v = .ref p := r1
    obtain ⟨us, h1, h2⟩ := a1.cell hp
    refine ⟨.inl ⟨rfl, us, .inl (.inl h1)⟩, hw R F1 σ H1 _ a1 (sd.mono e1) fun A2 s2 w F2 H2 ⟨ys, l', j, x, hs2, hj, hx, hu, hk⟩ e2 a2 r2 => ?_⟩
    subst hs2
    obtain rfl := sr_int r2
    obtain ⟨ws, h3, h4⟩ := a2.cell hu.mem
    obtain ⟨y, h5, h6⟩ := pget h4 hx
    have hjl := (List.getElem?_eq_some_iff.mp h5).1
    refine ⟨p, ws, (j : Int), j, y, rfl, rfl, h3, by omega, by omega, ?_, h5, q _ _ _ _ _ hk (e1.trans e2) (a2.put hu ⟨_, upd_same, paired_erase j h4⟩) h6⟩
    unfold seqIndex?
    simp
    omega
/-- xs[i] = v, xs owned -/
theorem go_lput {tv td ti : TE} (h : Wp K A tv S fun A1 s => Wp K A1 td S fun A2 s2 => Wp K A2 ti S fun A3 s3 => ∃ p xs i j l', s2 = .ptr p ∧ s3 = .dat (.int i) ∧ Upd A3.cells p (.lst xs) (.lst (xs.set j s)) l' ∧ ixN xs.length i = some j ∧ E.nx ⟨A3.I, l'⟩ S) :
    Go K A (tAsg tv (gSub td ti rSetL)) S E := fun R F σ H D a sd o =>
  h R F σ H _ a sd fun A1 s v F1 H1 h1 e1 a1 r1 => h1 R F1 σ H1 _ a1 (sd.mono e1) fun A2 s2 w F2 H2 h2 e2 a2 r2 => h2 R F2 σ H2 _ a2 ((sd.mono e1).mono e2) fun A3 s3 u F3 H3 ⟨p, xs, i, j, l', hs, hs2, hu, hj, hk⟩ e3 a3 r3 => by
    subst hs; subst hs2
    obtain rfl : w = .ref p := r2
    obtain rfl := sr_int r3
    obtain ⟨vs, h3, h4⟩ := a3.cell hu.mem
    exact ⟨p, vs, i, j, rfl, rfl, h3, by rw [h4.length]; exact hj, o.nx _ _ _ _ _ hk ((e1.trans e2).trans e3) (a3.put hu ⟨_, upd_same, pset (r1.mono (e2.trans e3)) j h4⟩) (sd.mono ((e1.trans e2).trans e3))⟩
end
end DL

/-! enumerate of tuples. -/
namespace DL
open PySem L2 RZ PyProof.Rows
open Sem (wp)
def IteT (K : PySem.W.Frag) (a : Addr) : It :=
  ⟨fun i H => ∃ (xs : List V) (x : V), SqT K H a xs ∧ xs[i]? = some x, fun i H v H' => ∃ T x, v = .ref T ∧ H T = none ∧ H' = upd H T (.tup [.int (i : Nat), x]) ∧ ∀ xs, SqT K H a xs → xs[i]? = some x, fun i H => ∃ xs : List V, SqT K H a xs ∧ xs.length ≤ i⟩
theorem turn_enumT {P : Program} {w : World} {K : PySem.W.Frag} {elts : List Expr} {kk : Nat} {tpos : Pos} (a e it : Addr) :
    Turn P w K (.Tuple elts kk tpos) (IteT K a) [e, it] e (fun i h => (∃ old, IsEnum h e it ((i : Nat) : Int) old) ∧ h.IsTupleIter it a i ∧ e ≠ it ∧ a ≠ it ∧ a ≠ e) where
  mem := by simp
  obj := fun i h st b hb => by
    obtain ⟨⟨old, he⟩, ⟨o, ho, hc, hd⟩, _⟩ := st
    have e' : b = e ∨ b = it := by simpa using hb
    rcases e' with z | z
    · rw [z]; exact ⟨_, he, fun v q => nomatch q⟩
    · rw [z]; exact ⟨o, ho, fun v q => by rw [hd] at q; cases q⟩
  keep := fun i h h' st k => let ⟨⟨old, he⟩, hi, hne⟩ := st; ⟨⟨old, k e (by simp) _ he⟩, hi.at fun o q => k it (by simp) o q, hne⟩
  item := by
    intro X hP hw hK hc i pins s σ H E I hf st hg
    subst hP hw hK
    obtain ⟨⟨old, he⟩, hit, hne, hai, hae⟩ := st
    obtain ⟨xs, x, hq, hx⟩ := hg
    obtain ⟨its, rv, p, hz⟩ := I.tuple hq
    obtain ⟨u, hu, ru⟩ := rv.get hx
    have hel : e < s.heap.objs.size := Heap.lt_size he
    have hil : it < s.heap.objs.size := by obtain ⟨_, q, _⟩ := hit; exact Heap.lt_size q
    have hlt : i < its.toArray.size := (List.getElem?_eq_some_iff.mp hu).1
    refine wpAny_pyNext_enum_itemD (Draws.tuple (A := X.A.in1) (I.ok.hd hc) it a hai its.toArray) he ⟨hit, show s.heap.IsTuple a its.toArray from p⟩ hlt hne (by simp only [List.mem_cons, List.not_mem_nil, or_false, not_or]; exact ⟨hne, Ne.symm hae⟩) fun y h' tk hy ho hst' hT hsz hk => ?_
    have hy' : u = y := by
      have h1 : its.toArray[i]? = some y := hy
      rw [List.getElem?_toArray, hu] at h1
      exact Option.some.inj h1
    subst hy'
    refine ⟨_, rfl, wpAny_letOwnedTupleGo_enum (s := { s with heap := h', toks := tk + 1 }) ho fun h'' he' sb => ?_⟩
    have hT2 : h''.get? s.heap.objs.size = some { cls := .type "tuple", data := .seq #[.int i tk, u] } := (sb.2 _ (Nat.ne_of_gt hel)).trans hT
    have new : ObjOk X.prog X.w (upd H s.heap.objs.size (.tup [.int (i : Nat), x])) h'' s.heap.objs.size (.tup [.int (i : Nat), x]) :=
      ⟨by show 2 ≤ sizeLine; decide, [.int i tk, u], .cons ⟨_, rfl⟩ (.cons ru .nil), ⟨_, hT2, rfl, _, rfl⟩⟩
    have I1 : Inv X pins σ (upd H s.heap.objs.size (.tup [.int (i : Nat), x])) { s with heap := h'', toks := tk + 1 } :=
      I.turnedNew (ch := [e, it]) (fun b ob hb q => (sb.2 b (fun z => hb (by simp [z]))).trans (hk b ob (fun z => hb (by simp [z])) (fun z => hb (by simp [z])) q)) hf (Nat.le_refl _) new
    refine ⟨.ref s.heap.objs.size, _, I1, rfl, ⟨_, x, rfl, I.hok.fresh (Nat.le_refl _), rfl, fun ys hy => by rw [I.tuple_inj hy hq]; exact hx⟩, ⟨⟨u, ?_⟩, hst'.1.at fun o q => (sb.2 it (Ne.symm hne)).trans q, hne, hai, hae⟩, fun b hb => ?_⟩
    · have e1 : ((i + 1 : Nat) : Int) = (i : Int) + 1 := by omega
      rw [e1]; exact he'
    · have hb' : b < s.heap.objs.size := by
        have e' : b = e ∨ b = it := by simpa using hb
        rcases e' with z | z
        · rw [z]; exact hel
        · rw [z]; exact hil
      rw [upd_ne (Nat.ne_of_lt hb')]
      exact (hf b hb).1
  done := by
    intro X hP hw hK hc i pins s σ H E I hf st hg
    subst hP hw hK
    obtain ⟨⟨old, he⟩, hit, hne, hai, hae⟩ := st
    obtain ⟨xs, hq, hx⟩ := hg
    obtain ⟨its, rv, p, hz⟩ := I.tuple hq
    obtain ⟨f0, f1, f2, f3, f4, f5⟩ := hf it (by simp)
    have hl := rv.length
    unfold pyNext
    have hT : s.TypeIs (.ref e) "enumerate" := ⟨_, he, rfl⟩
    refine wpAny_bind (wpAny_attempt (wpAny_callSpecial?_slot (name := Str.ofString "__next__") hT PySem.F.slot_enumerate_next
      (wpAny_call_entry PySem.F.slot_enumerate_next hT PySem.F.entry_enumerate_next ?_ (PySem.F.args_enumerate_next_1 _))))
    show wpAny _ _ (field (.ref e) 2 >>= _) _ _ _
    refine wpAny_bind (wpAny_field he rfl (x := .ref it) rfl ?_)
    refine wpAny_bind (wpAny_nextOf_tuple_end (I.ok.hd hc) hit (show s.heap.IsTuple a its.toArray from p) (by simp; omega) fun h' x he' hx' => ?_)
    obtain ⟨o, ho, hc⟩ := hx'
    refine wpAny_bind (wpAny_isInstance (T := "StopIteration") (b := true) ⟨o, ho, hc⟩ isSubtype_stop ?_)
    exact wpAny_pure ⟨rfl, I.turned (t' := s.toks) (fun b o hb q => he' b o hb q) f0 f1 f3 f4 f5⟩
  self := fun A i s Q E st h => let ⟨⟨_, he⟩, _⟩ := st; wpAny_pyIter_enum he h
theorem meets_enumB {v : Value} {o : Obj} {H : Heap → Prop} (B : Begins v o H) :
    Meets (Builtin.«enumerate.__new__» ⟨[.type "enumerate", v], []⟩) (fun _ R s => H s.heap ∧
      R (.ok (.ret (.ref (s.heap.push o).objs.size))) { s with heap := (s.heap.push o).push { cls := .type "enumerate", data := .fields #[.none, .bool false, .ref s.heap.objs.size, rawInt 0, .none, .none] } }) :=
  .of_wp fun prog w A R s h => by
    obtain ⟨hp, g, d, tk, os⟩ := s; obtain ⟨h1, h⟩ := h
    have hsub := sub_enumerate
    have q1 : ∀ {A' : Around} {E : Value → Shared → Prop} {Q : Value → Shared → Prop}, Q (.ref hp.objs.size) ⟨hp.push o, g, d, tk, os⟩ → wpAny (model prog w) A' (pyIter v) Q E ⟨hp, g, d, tk, os⟩ :=
      fun q => B.iter prog w _ _ ⟨hp, g, d, tk, os⟩ _ h1 q
    wp_walk
    refine wpAny_stack_any fun st => wpAny_pure ?_
    split
    · rename_i c _ _ _ _ _
      cases (c == Value.type "enumerate")
      · wp_walk using q1
        exact ⟨_, rfl, h⟩
      · wp_walk using q1
        exact ⟨_, rfl, h⟩
    · wp_walk using q1
      exact ⟨_, rfl, h⟩
section
variable {prog : Program} {w : World} {A : Around} {E : Value → Shared → Prop} {s : Shared}
theorem call_enumB {v : Value} {o : Obj} {H : Heap → Prop} {Q : Value → Shared → Prop} (B : Begins v o H) (h1 : H s.heap)
    (h : ∀ h', IsEnum h' (s.heap.objs.size + 1) s.heap.objs.size 0 .none → h'.get? s.heap.objs.size = some o → h'.objs.size = s.heap.objs.size + 2 →
      (∀ b o, s.heap.get? b = some o → h'.get? b = some o) → Q (.ref (s.heap.objs.size + 1)) { s with heap := h' }) :
    wpAny (model prog w) A (call (.type "enumerate") [v]) Q E s := by
  refine callType_new PySem.F.called_enumerate (by decide) (PySem.F.typeCall_enumerate_1 _) (PySem.F.newCall_enumerate_1 _) (fun obj => PySem.F.args_object_init_2 obj _) PySem.F.entry_enumerate_new
    (meets_enumB B) ⟨h1, ?_⟩
  have hz : (s.heap.push o).objs.size = s.heap.objs.size + 1 := Heap.size_push ..
  show _ ∧ _
  rw [hz]
  have he : IsEnum ((s.heap.push o).push { cls := .type "enumerate", data := .fields #[.none, .bool false, .ref s.heap.objs.size, rawInt 0, .none, .none] }) (s.heap.objs.size + 1) s.heap.objs.size 0 .none := by
    have := Heap.get?_push_size (s.heap.push o) (o := { cls := .type "enumerate", data := .fields #[.none, .bool false, .ref s.heap.objs.size, rawInt 0, .none, .none] }) rfl
    rw [hz] at this; exact this
  exact ⟨⟨_, he, rfl⟩, h _ he (Heap.get?_push_of_some _ (Heap.get?_push_size _ B.free)) (by rw [Heap.size_push, hz]) fun b o x => Heap.get?_push_of_some _ (Heap.get?_push_of_some _ x)⟩
end
def iEnumT (K : PySem.W.Frag) (ta : TA) : TI := fun σ H R => ta σ H fun vs H1 => ∃ a xs, vs = [.ref a] ∧ SqT K H1 a xs ∧ R (IteT K a) H1
theorem pi_enumT {X : Cx} {e : Expr} {ta : TA} {p pos tpos : Pos} {elts : List Expr} {kk : Nat} (hg : Gl X "enumerate") (hm : X.mg "enumerate" = none) (ha : PA X [e] ta) (hs : starEach [e] X.env = [(false, eval e X.env)] := by rfl) :
    PI X (.Tuple elts kk tpos) (.Call (.Name "enumerate" p) [e] [] pos) (iEnumT X.K ta) := by
  refine ⟨fun pins s σ H R I h => ?_⟩
  refine Call_ (ld_blt I hg hm boot_enumerate (PyProof.Rows.callWith_type1 (thn (ha.run pos pins s σ H _ I h) fun us s1 ⟨vs, H1, I1, r1, q1⟩ => ?_) hs rfl))
  obtain ⟨a, xs, ex, hq, q⟩ := q1
  subst ex
  cases r1 with
  | cons r rr =>
    cases rr
    cases r
    obtain ⟨its, rv, p', hz⟩ := I1.tuple hq
    have hal : a < s1.heap.objs.size := by obtain ⟨_, x, _⟩ := p'; exact Heap.lt_size x
    refine call_enumB (begins_tuple a its.toArray) p' fun h' he hit hsz hk => wpAny_pyIter_enum he ?_
    have I2 : Inv X pins σ H1 { s1 with heap := h' } := I1.kept (t' := s1.toks) hk
    refine ⟨s1.heap.objs.size + 1, [s1.heap.objs.size + 1, s1.heap.objs.size], _, _, H1, rfl, I2, turn_enumT a (s1.heap.objs.size + 1) s1.heap.objs.size, ⟨⟨.none, he⟩, ⟨_, hit, rfl, rfl⟩, Nat.succ_ne_self _, Nat.ne_of_lt hal, Nat.ne_of_lt (Nat.lt_succ_of_lt hal)⟩, fun b hb => ?_, q⟩
    have e' : b = s1.heap.objs.size + 1 ∨ b = s1.heap.objs.size := by simpa using hb
    have hle : s1.heap.objs.size ≤ b := by
      rcases e' with z | z
      · rw [z]; exact Nat.le_add_right _ _
      · rw [z]; exact Nat.le_refl _
    exact I1.fpOk hle (I1.hok.fresh hle)
/-! ### what they walk, by data -/
def enumD (ds : List PyData) : List PyData := ds.zipIdx.map fun p => .tuple [.int (p.2 : Nat), p.1]
theorem enumD_get {ds : List PyData} {i : Nat} {s : SV} (h : ((enumD ds).map SV.dat)[i]? = some s) : ∃ d, ds[i]? = some d ∧ s = .dat (.tuple [.int (i : Nat), d]) := by
  unfold enumD at h
  rw [List.map_map, List.getElem?_map, List.getElem?_zipIdx] at h
  cases e : ds[i]? with
  | none => rw [e] at h; cases h
  | some d =>
    rw [e] at h
    simp at h
    exact ⟨d, rfl, h.symm⟩
theorem enumD_length (ds : List PyData) : (enumD ds).length = ds.length := by simp [enumD]
section
variable {K : PySem.W.Frag} {A : Amb} {S : List SV} {ta : TA} {k : KS}
theorem pair_new {A' : Amb} {F F' H : Hp} {T : Addr} {x : V} {i : Nat} {d : PyData} (hT : H T = none) (at' : At K A' F' H) (hd : Dt K F' x d) : ∃ F'', Same F' F'' ∧ At K A' F'' (upd H T (.tup [.int (i : Nat), x])) ∧ SR K F'' (.ref T) (.dat (.tuple [.int (i : Nat), d])) := by
  obtain ⟨a2, e2⟩ := at'.alloc (o := .tup [.int (i : Nat), x]) hT
  exact ⟨_, e2, a2, .tup (SqT.of upd_same) (.cons (.int _) (.cons (hd.mono e2) .nil))⟩
theorem iw_enum (h : WpA K A ta S fun A1 ss => ∃ ds, ss = [.dat (.list ds)] ∧ k A1 ((enumD ds).map .dat)) : IW K A (iEnum K ta) S k := fun R F σ H Q a sd q =>
  h R F σ H _ a sd fun A1 ss vs F1 H1 ⟨ds, hs, hk⟩ e1 a1 r1 => by
    subst hs
    obtain ⟨v, rfl, r2⟩ := one_of r1
    obtain ⟨p, xs, rfl, h1, h2⟩ := sr_lst r2
    refine ⟨p, xs, rfl, .inl (.inl (a1.same _ _ h1)), q A1 _ F1 H1 _ hk e1 a1 fun A' F' H' i e at' => ?_⟩
    have hH : SqL K H' p xs := .inl (.inl ((e.trans at'.same) _ _ h1))
    refine ⟨fun hi => ⟨xs, hH, ?_⟩, fun s hs => ?_⟩
    · rw [List.length_map, enumD_length] at hi
      rw [h2.length]
      exact hi
    · obtain ⟨d, hd, rfl⟩ := enumD_get hs
      obtain ⟨x, hx, hdx⟩ := h2.getD hd
      refine ⟨⟨xs, x, hH, hx⟩, fun z H'' y => ?_⟩
      obtain ⟨T, x', rfl, hT, rfl, y⟩ := y
      have q1 := y xs hH
      rw [hx] at q1
      cases q1
      exact pair_new (F := F1) hT at' (hdx.mono e)
theorem iw_enumT (h : WpA K A ta S fun A1 ss => ∃ ds, ss = [.dat (.tuple ds)] ∧ k A1 ((enumD ds).map .dat)) : IW K A (iEnumT K ta) S k := fun R F σ H Q a sd q =>
  h R F σ H _ a sd fun A1 ss vs F1 H1 ⟨ds, hs, hk⟩ e1 a1 r1 => by
    subst hs
    obtain ⟨v, rfl, r2⟩ := one_of r1
    obtain ⟨p, xs, rfl, h1, h2⟩ := sr_tup r2
    refine ⟨p, xs, rfl, same_t a1.same h1, q A1 _ F1 H1 _ hk e1 a1 fun A' F' H' i e at' => ?_⟩
    have hH : SqT K H' p xs := same_t (e.trans at'.same) h1
    refine ⟨fun hi => ⟨xs, hH, ?_⟩, fun s hs => ?_⟩
    · rw [List.length_map, enumD_length] at hi
      rw [h2.length]
      exact hi
    · obtain ⟨d, hd, rfl⟩ := enumD_get hs
      obtain ⟨x, hx, hdx⟩ := h2.getD hd
      refine ⟨⟨xs, x, hH, hx⟩, fun z H'' y => ?_⟩
      obtain ⟨T, x', rfl, hT, rfl, y⟩ := y
      have q1 := y xs hH
      rw [hx] at q1
      cases q1
      exact pair_new (F := F1) hT at' (hdx.mono e)
/-- zip, by data -/
def zipD (ds es : List PyData) : List PyData := (ds.zip es).map fun p => .tuple [p.1, p.2]
theorem zipD_length (ds es : List PyData) : (zipD ds es).length = min ds.length es.length := by simp [zipD]
theorem zipD_get {ds es : List PyData} {i : Nat} {s : SV} (h : ((zipD ds es).map SV.dat)[i]? = some s) : ∃ d e, ds[i]? = some d ∧ es[i]? = some e ∧ s = .dat (.tuple [d, e]) := by
  unfold zipD at h
  rw [List.map_map, List.getElem?_map] at h
  cases z : (ds.zip es)[i]? with
  | none => rw [z] at h; cases h
  | some p =>
    rw [z] at h
    obtain ⟨h1, h2⟩ := List.getElem?_zip_eq_some.mp z
    exact ⟨p.1, p.2, h1, h2, by simpa using h.symm⟩
theorem pair2_new {A' : Amb} {F' H : Hp} {T : Addr} {x y : V} {d e : PyData} (hT : H T = none) (at' : At K A' F' H) (hd : Dt K F' x d) (he : Dt K F' y e) : ∃ F'', Same F' F'' ∧ At K A' F'' (upd H T (.tup [x, y])) ∧ SR K F'' (.ref T) (.dat (.tuple [d, e])) := by
  obtain ⟨a2, e2⟩ := at'.alloc (o := .tup [x, y]) hT
  exact ⟨_, e2, a2, .tup (SqT.of upd_same) (.cons (hd.mono e2) (.cons (he.mono e2) .nil))⟩
theorem iw_zipL (h : WpA K A ta S fun A1 ss => ∃ ds es, ss = [.dat (.list ds), .dat (.list es)] ∧ k A1 ((zipD ds es).map .dat)) : IW K A (iZipA K ta) S k := fun R F σ H Q a sd q =>
  h R F σ H _ a sd fun A1 ss vs F1 H1 ⟨ds, es, hs, hk⟩ e1 a1 r1 => by
    subst hs
    obtain ⟨v, w, rfl, r2, r3⟩ := two_of r1
    obtain ⟨p, xs, rfl, h1, h2⟩ := sr_lst r2
    obtain ⟨p2, ys, rfl, h3, h4⟩ := sr_lst r3
    refine ⟨p, p2, xs, ys, rfl, .inl ⟨.inl (.inl (a1.same _ _ h1)), .inl (.inl (a1.same _ _ h3)), q A1 _ F1 H1 _ hk e1 a1 fun A' F' H' i e at' => ?_⟩⟩
    have hH : SqL K H' p xs := .inl (.inl ((e.trans at'.same) _ _ h1))
    have hH2 : SqL K H' p2 ys := .inl (.inl ((e.trans at'.same) _ _ h3))
    refine ⟨fun hi => ⟨xs, ys, hH, hH2, ?_⟩, fun s hs => ?_⟩
    · rw [List.length_map, zipD_length] at hi
      rw [h2.length, h4.length]
      omega
    · obtain ⟨d, e', hd, he, rfl⟩ := zipD_get hs
      obtain ⟨x, hx, hdx⟩ := h2.getD hd
      obtain ⟨y, hy, hdy⟩ := h4.getD he
      refine ⟨⟨xs, ys, x, y, hH, hH2, hx, hy⟩, fun z H'' w => ?_⟩
      obtain ⟨T, x', y', rfl, hT, rfl, w1, w2⟩ := w
      have q1 := w1 xs hH
      have q2 := w2 ys hH2
      rw [hx] at q1
      rw [hy] at q2
      cases q1
      cases q2
      exact pair2_new hT at' (hdx.mono e) (hdy.mono e)
theorem iw_zipT (h : WpA K A ta S fun A1 ss => ∃ ds es, ss = [.dat (.tuple ds), .dat (.tuple es)] ∧ k A1 ((zipD ds es).map .dat)) : IW K A (iZipA K ta) S k := fun R F σ H Q a sd q =>
  h R F σ H _ a sd fun A1 ss vs F1 H1 ⟨ds, es, hs, hk⟩ e1 a1 r1 => by
    subst hs
    obtain ⟨v, w, rfl, r2, r3⟩ := two_of r1
    obtain ⟨p, xs, rfl, h1, h2⟩ := sr_tup r2
    obtain ⟨p2, ys, rfl, h3, h4⟩ := sr_tup r3
    refine ⟨p, p2, xs, ys, rfl, .inr ⟨same_t a1.same h1, same_t a1.same h3, q A1 _ F1 H1 _ hk e1 a1 fun A' F' H' i e at' => ?_⟩⟩
    have hH : SqT K H' p xs := same_t (e.trans at'.same) h1
    have hH2 : SqT K H' p2 ys := same_t (e.trans at'.same) h3
    refine ⟨fun hi => ⟨xs, ys, hH, hH2, ?_⟩, fun s hs => ?_⟩
    · rw [List.length_map, zipD_length] at hi
      rw [h2.length, h4.length]
      omega
    · obtain ⟨d, e', hd, he, rfl⟩ := zipD_get hs
      obtain ⟨x, hx, hdx⟩ := h2.getD hd
      obtain ⟨y, hy, hdy⟩ := h4.getD he
      refine ⟨⟨xs, ys, x, y, hH, hH2, hx, hy⟩, fun z H'' w => ?_⟩
      obtain ⟨T, x', y', rfl, hT, rfl, w1, w2⟩ := w
      have q1 := w1 xs hH
      have q2 := w2 ys hH2
      rw [hx] at q1
      rw [hy] at q2
      cases q1
      cases q2
      exact pair2_new hT at' (hdx.mono e) (hdy.mono e)
end
theorem pi_enumK (K : PySem.W.Frag) {X : Cx} {e : Expr} {ta : TA} {p pos tpos : Pos} {elts : List Expr} {kk : Nat} (hg : Gl X "enumerate") (hm : X.mg "enumerate" = none) (ha : PA X [e] ta) (hs : starEach [e] X.env = [(false, eval e X.env)] := by rfl) (h : X.K = K := by rfl) :
    PI X (.Tuple elts kk tpos) (.Call (.Name "enumerate" p) [e] [] pos) (iEnum K ta) := h ▸ pi_enum hg hm ha hs
theorem pi_enumTK (K : PySem.W.Frag) {X : Cx} {e : Expr} {ta : TA} {p pos tpos : Pos} {elts : List Expr} {kk : Nat} (hg : Gl X "enumerate") (hm : X.mg "enumerate" = none) (ha : PA X [e] ta) (hs : starEach [e] X.env = [(false, eval e X.env)] := by rfl) (h : X.K = K := by rfl) :
    PI X (.Tuple elts kk tpos) (.Call (.Name "enumerate" p) [e] [] pos) (iEnumT K ta) := h ▸ pi_enumT hg hm ha hs
theorem pi_zipK (K : PySem.W.Frag) {X : Cx} {e e2 : Expr} {ta : TA} {p pos tpos : Pos} {elts : List Expr} {kk : Nat} (hg : Gl X "zip") (hm : X.mg "zip" = none) (ha : PA X [e, e2] ta)
    (hs : starEach [e, e2] X.env = (false, eval e X.env) :: starEach [e2] X.env := by rfl) (hpl : (backTo pos (starEach [e2] X.env)).any (·.1) = false := by rfl) (h : X.K = K := by rfl) :
    PI X (.Tuple elts kk tpos) (.Call (.Name "zip" p) [e, e2] [] pos) (iZipA K ta) := h ▸ pi_zipA hg hm ha hs hpl
end DL

/-! Joined texts, all and any, tuples put together, dicts made of pairs, isinstance of two classes. -/
namespace DL
open PySem L2 RZ
section
variable {K : PySem.W.Frag} {A A' : Amb} {S S' : List SV} {k k' : KA} {ta tb te to : TE} {s s1 s2 : SV} {E : DE}
/-! ### texts -/
def rJoin (K : PySem.W.Frag) : V → List V → Hp → VK → Prop := fun x xs H Q => ∃ a p, ∃ ys : List Str, x = .str a ∧ xs = [.ref p] ∧ (SqL K H p (ys.map V.str) ∨ SqT K H p (ys.map V.str)) ∧
    (ys.map (·.length)).sum + ys.length * a.length ≤ 16777216 ∧ Q (.str (Txt.join a ys)) H
theorem mt_joinK (K : PySem.W.Frag) {X : Cx} (h : X.K = K := by rfl) : MtR X "str.join" (rJoin K) := h ▸ mt_join
theorem dt_strs {F : Hp} : ∀ {xs : List V} {ys : List Str}, DtAll K F xs (ys.map PyData.str) → xs = ys.map V.str
  | _, [], .nil => rfl
  | _, y :: ys, .cons h t => by
    cases h
    rw [List.map_cons, dt_strs t]
theorem wp_join1 (h : Wp K A to S fun A1 s => ∃ a, s = .dat (.str a) ∧ Wp K A1 te S fun A2 s2 => ∃ ys : List Str, s2 = .dat (.list (ys.map .str)) ∧ (ys.map (·.length)).sum + ys.length * a.length ≤ 16777216 ∧ k A2 (.dat (.str (Txt.join a ys)))) :
    Wp K A (tBM K "str" (rJoin K) to (tCons te tNil)) S k := fun R F σ H Q a sd q =>
  h R F σ H _ a sd fun A1 s v F1 H1 ⟨z, hs, h1⟩ e1 a1 r1 => by
    subst hs
    obtain rfl := sr_str r1
    refine ⟨rfl, h1 R F1 σ H1 _ a1 (sd.mono e1) fun A2 s2 w F2 H2 ⟨ys, hs2, hz, hk⟩ e2 a2 r2 => ?_⟩
    subst hs2
    obtain ⟨p, xs, rfl, f1, f2⟩ := sr_lst r2
    obtain rfl := dt_strs f2
    exact ⟨z, p, ys, rfl, rfl, .inl (.inl (.inl (a2.same _ _ f1))), hz, q A2 _ _ F2 H2 hk (e1.trans e2) a2 (.str _)⟩
/-! ### all, any -/
theorem cr_allK (K : PySem.W.Frag) {X : Cx} (hc : X.calm = true) (h : X.K = K := by rfl) : CallR X (.builtin "all") (rAll K) := h ▸ cr_all hc
theorem cr_anyK (K : PySem.W.Frag) {X : Cx} (hc : X.calm = true) (h : X.K = K := by rfl) : CallR X (.builtin "any") (rAny K) := h ▸ cr_any hc
theorem dt_bools {F : Hp} : ∀ {xs : List V} {bs : List Bool}, DtAll K F xs (bs.map PyData.bool) → xs = bs.map V.bl
  | _, [], .nil => rfl
  | _, b :: bs, .cons h t => by
    cases h
    rw [List.map_cons, dt_bools t]
theorem cw_all {bs : List Bool} (h : k A (.dat (.bool (bs.all id)))) : CW K (rAll K) [.dat (.list (bs.map .bool))] A k := fun R F H vs Q a r q => by
  obtain ⟨v, rfl, r1⟩ := one_of r
  obtain ⟨p, xs, rfl, f1, f2⟩ := sr_lst r1
  obtain rfl := dt_bools f2
  exact ⟨p, bs, rfl, .inl (.inl (a.same _ _ f1)), q A _ _ F H h (Same.refl F) a (.bl _)⟩
theorem cw_any {bs : List Bool} (h : k A (.dat (.bool (bs.any id)))) : CW K (rAny K) [.dat (.list (bs.map .bool))] A k := fun R F H vs Q a r q => by
  obtain ⟨v, rfl, r1⟩ := one_of r
  obtain ⟨p, xs, rfl, f1, f2⟩ := sr_lst r1
  obtain rfl := dt_bools f2
  exact ⟨p, bs, rfl, .inl (.inl (a.same _ _ f1)), q A _ _ F H h (Same.refl F) a (.bl _)⟩
/-! ### tuples put together -/
theorem op_catK (K : PySem.W.Frag) {X : Cx} (h : X.K = K := by rfl) : OpR X (binaryOp .Add) (rCatA K) := h ▸ op_catA
theorem rw_catT {ds es : List PyData} (hl : ds.length + es.length ≤ sizeLine) (h : k A (.dat (.tuple (ds ++ es)))) : RW K (rCatA K) (.dat (.tuple ds)) (.dat (.tuple es)) A k := fun R F H v w Q a r1 r2 q => by
  obtain ⟨p, xs, rfl, h1, h2⟩ := sr_tup r1
  obtain ⟨p', ys, rfl, h3, h4⟩ := sr_tup r2
  refine ⟨p, p', xs, ys, rfl, rfl, same_t a.same h1, same_t a.same h3, by rw [h2.length, h4.length]; exact hl, fun hx => ?_, fun _ hy => ?_, fun _ _ n hn => ?_⟩
  · subst hx
    cases h2
    exact q A _ _ F H h (Same.refl F) a r2
  · subst hy
    cases h4
    rw [List.append_nil] at h
    exact q A _ _ F H h (Same.refl F) a r1
  · obtain ⟨a2, e2⟩ := a.alloc (o := .tup (xs ++ ys)) hn
    exact q A _ _ _ _ h e2 a2 (.tup (SqT.of upd_same) ((h2.append h4).mono e2))
/-! ### dicts: their keys as a list, a dict of pairs, two compared -/
theorem call_keysL {X : Cx} (hc : X.calm = true) : CallR X (.type "list") rListD := call_list_dK hc
theorem kvr_keys {κ : Type} {F : Hp} : ∀ {vs : List (κ × V)} {kvs : List (κ × SV)}, KVR K F vs kvs → vs.map (·.1) = kvs.map (·.1)
  | _, _, .nil => rfl
  | _, _, .cons r t => by rw [List.map_cons, List.map_cons, kvr_keys t, r.1]
theorem keys_dt (F : Hp) : ∀ ks : List Key, DtAll K F (ks.map kV) (ks.map keyD)
  | [] => .nil
  | .inl i :: ks => .cons (.int i) (keys_dt F ks)
  | .inr x :: ks => .cons (.str x) (keys_dt F ks)
theorem cw_keysL {p : Addr} {kvs : List (Key × SV)} (hp : (p, .dk kvs) ∈ A.cells) (h : k A (.dat (.list (kvs.map fun kv => keyD kv.1)))) : CW K rListD [.ptr p] A k := fun R F H vs Q a r q => by
  obtain ⟨v, rfl, r1⟩ := one_of r
  obtain rfl : v = .ref p := r1
  obtain ⟨_, _, us, h1, h2⟩ := At.cell a p (.dk kvs) (List.mem_append_left _ hp)
  refine ⟨p, us, rfl, h1, fun l hl => ?_⟩
  have ek := kvr_keys h2
  have e1 : (us.map fun kv => kV kv.1) = (kvs.map (·.1)).map kV := by rw [← ek, List.map_map]; rfl
  have e2 : (kvs.map fun kv => keyD kv.1) = (kvs.map (·.1)).map keyD := by rw [List.map_map]; rfl
  rw [e2] at h
  rw [e1]
  obtain ⟨a2, e3⟩ := a.alloc (o := .lst ((kvs.map (·.1)).map kV)) hl
  exact q A _ _ _ _ h e3 a2 (.lst upd_same (keys_dt _ _))
def rDictP (K : PySem.W.Frag) : List V → Hp → VK → Prop := fun xs H Q => ∃ (a : Addr) (ps : List Addr) (kvs : List (Key × V)), xs = [.ref a] ∧ SqL K H a (ps.map V.ref) ∧ Paired (fun p kv => SqT K H p [kV kv.1, kv.2]) ps kvs ∧
    ∀ p, H p = none → Q (.ref p) (upd H p (.dK (mergeK [] kvs)))
theorem call_dictPK (K : PySem.W.Frag) {X : Cx} (hc : X.calm = true) (h : X.K = K := by rfl) : CallR X (.type "dict") (rDictP K) := h ▸ call_dictP hc
theorem pairs_dt {F : Hp} : ∀ {xs : List V} {prs : List (Key × PyData)}, DtAll K F xs (prs.map fun q => .tuple [keyD q.1, q.2]) → ∃ (ps : List Addr) (kvs : List (Key × V)), xs = ps.map V.ref ∧ Paired (fun p kv => SqT K F p [kV kv.1, kv.2]) ps kvs ∧ KVR K F kvs (prs.map fun q => (q.1, SV.dat q.2))
  | _, [], .nil => ⟨[], [], rfl, .nil, .nil⟩
  | _, pr :: prs, .cons h t => by
    obtain ⟨ps, kvs, rfl, h1, h2⟩ := pairs_dt t
    cases h with
    | tup hq hd =>
      cases hd with
      | cons d1 d2 =>
        cases d2 with
        | cons d3 d4 =>
          cases d4
          have e := keyD_v (F := F) (x := pr.1) d1
          subst e
          exact ⟨_ :: ps, (pr.1, _) :: kvs, rfl, .cons hq h1, .cons ⟨rfl, d3⟩ h2⟩
theorem cw_dictP {prs : List (Key × PyData)} (h : ∀ p, k (A.add p (.dk (mergeS [] (prs.map fun q => (q.1, SV.dat q.2))))) (.ptr p)) : CW K (rDictP K) [.dat (.list (prs.map fun q => .tuple [keyD q.1, q.2]))] A k := fun R F H vs Q a r q => by
  obtain ⟨v, rfl, r1⟩ := one_of r
  obtain ⟨p, xs, rfl, f1, f2⟩ := sr_lst r1
  obtain ⟨ps, kvs, rfl, g1, g2⟩ := pairs_dt f2
  refine ⟨p, ps, kvs, rfl, .inl (.inl (a.same _ _ f1)), Paired.mono (fun _ _ q => same_t a.same q) g1, fun l hl => ?_⟩
  exact q _ _ _ _ _ (h l) (Same.refl F) (a.new (o := .dK (mergeK [] kvs)) (c := .dk _) hl ⟨_, upd_same, kvr_merge g2 .nil⟩) rfl
def flatD : PyData → Bool
  | .none | .bool _ | .int _ | .str _ => true
  | _ => false
theorem flat_dt {F : Hp} {v w : V} {d : PyData} (h1 : Dt K F v d) (h2 : Dt K F w d) (hf : flatD d = true) : v = w ∧ flatB v = true := by
  cases h1 <;> first | (cases h2; exact ⟨rfl, rfl⟩) | cases hf
theorem rw_neDA {p p2 : Addr} {ks ls : List (Key × PyData)} (hp : (p, .dk (ks.map fun q => (q.1, .dat q.2))) ∈ A.cells) (hp2 : (p2, .dk (ls.map fun q => (q.1, .dat q.2))) ∈ A.cells) (hlen : ks.length = ls.length) (hs : ∀ q ∈ ks, lookS (ls.map fun q => (q.1, SV.dat q.2)) q.1 = some (.dat q.2) ∧ flatD q.2 = true) (h : k A (.dat (.bool false))) : RW K rNeDA (.ptr p) (.ptr p2) A k := fun R F H v w Q a r1 r2 q => by
  obtain rfl : v = .ref p := r1
  obtain rfl : w = .ref p2 := r2
  obtain ⟨_, _, us, h1, h2⟩ := At.cell a p _ (List.mem_append_left _ hp)
  obtain ⟨_, _, ws, h3, h4⟩ := At.cell a p2 _ (List.mem_append_left _ hp2)
  have l1 := Paired.length h2
  have l2 := Paired.length h4
  rw [List.length_map] at l1 l2
  refine ⟨p, p2, us, ws, rfl, rfl, h1, h3, by omega, fun x hx => ?_, q A _ _ F H h (Same.refl F) a (.bl _)⟩
  obtain ⟨i, hi⟩ := List.getElem?_of_mem hx
  obtain ⟨b, hb, hk, hd⟩ := pgetL h2 hi
  rw [List.getElem?_map] at hb
  cases e : ks[i]? with
  | none => rw [e] at hb; cases hb
  | some z =>
    rw [e] at hb
    cases hb
    obtain ⟨g1, g2⟩ := hs z (List.mem_of_getElem? e)
    obtain ⟨y, g3, g4⟩ := (kvr_look h4).1 _ g1
    obtain ⟨e1, e2⟩ := flat_dt (F := F) hd g4 g2
    have hk : x.1 = z.1 := hk
    rw [hk]
    exact ⟨by rw [g3, e1], e2⟩
end
end DL

/-! Own classes: instances are cells; isinstance of two built-in classes; slices with a step. -/
namespace DL
open PySem L2 RZ PyProof.Rows
def putFS (f : Str) (v : SV) : List (Str × SV) → List (Str × SV)
  | [] => [(f, v)]
  | (g, x) :: r => if g = f then (g, v) :: r else (g, x) :: putFS f v r
section
variable {K : PySem.W.Frag} {A A' : Amb} {S S' : List SV} {k k' : KA} {ta : TA} {to tv te : TE} {s s1 s2 : SV} {E : DE} {C : Addr} {m f : Str} {W : List SV → Amb → KA → Prop} {EX : XK}
theorem kvr_putF {F : Hp} {f : Str} {v : V} {s : SV} (r : SR K F v s) : ∀ {vs : List (Str × V)} {fs : List (Str × SV)}, KVR K F vs fs → KVR K F (putF f v vs) (putFS f s fs)
  | _, _, .nil => .cons ⟨rfl, r⟩ .nil
  | (g, x) :: vs, (g', y) :: fs, .cons h t => by
    obtain ⟨h1, h2⟩ := h
    have h1 : g = g' := h1
    subst h1
    unfold putF putFS
    split
    · exact .cons ⟨rfl, r⟩ t
    · exact .cons ⟨rfl, h2⟩ (kvr_putF r t)
theorem kvr_lookup {F : Hp} {f : Str} : ∀ {vs : List (Str × V)} {fs : List (Str × SV)}, KVR K F vs fs → (∀ s, fs.lookup f = some s → ∃ v, vs.lookup f = some v ∧ SR K F v s) ∧ (fs.lookup f = none → vs.lookup f = none)
  | _, _, .nil => ⟨fun s h => (by cases h), fun _ => rfl⟩
  | (g, x) :: vs, (g', y) :: fs, .cons h t => by
    obtain ⟨h1, h2⟩ := h
    have h1 : g = g' := h1
    subst h1
    have h2 : SR K F x y := h2
    obtain ⟨i1, i2⟩ := kvr_lookup (f := f) t
    cases e : f == g with
    | true =>
      simp only [List.lookup_cons, e]
      exact ⟨fun s z => by cases z; exact ⟨x, rfl, h2⟩, fun z => by cases z⟩
    | false =>
      simp only [List.lookup_cons, e]
      exact ⟨i1, i2⟩
theorem wp_fld (h : Wp K A to S fun A1 s => ∃ p C dx fs v, s = .ptr p ∧ (p, .ins C dx fs) ∈ A1.cells ∧ Cls K C ∧ NoAttr K C f ∧ fs.lookup f = some v ∧ k A1 v) : Wp K A (tFld K to f) S k := fun R F σ H Q a sd q =>
  h R F σ H _ a sd fun A1 s v F1 H1 ⟨p, C, dx, fs, u, hs, hp, hc, hn, hl, hk⟩ e1 a1 r1 => by
    subst hs
    obtain rfl : v = .ref p := r1
    obtain ⟨_, _, vs, h1, h2⟩ := At.cell a1 p _ (List.mem_append_left _ hp)
    obtain ⟨y, h3, h4⟩ := (kvr_lookup h2).1 _ hl
    exact ⟨p, C, dx, vs, y, rfl, h1, hc, hn, h3, q A1 _ _ F1 H1 hk e1 a1 h4⟩
theorem go_fld (h : Wp K A tv S fun A1 s => Wp K A1 to S fun A2 s2 => ∃ p C dx fs l', s2 = .ptr p ∧ Cls K C ∧ NoAttr K C f ∧ fs.length < 1000 ∧ Upd A2.cells p (.ins C dx fs) (.ins C dx (putFS f s fs)) l' ∧ E.nx ⟨A2.I, l'⟩ S) : Go K A (sFld K to tv f) S E := fun R F σ H D a sd o =>
  h R F σ H _ a sd fun A1 s v F1 H1 h1 e1 a1 r1 => h1 R F1 σ H1 _ a1 (sd.mono e1) fun A2 s2 w F2 H2 ⟨p, C, dx, fs, l', hs, hc, hn, hl, hu, hk⟩ e2 a2 r2 => by
    subst hs
    obtain rfl : w = .ref p := r2
    obtain ⟨_, _, vs, h3, h4⟩ := At.cell a2 p _ (List.mem_append_left _ hu.mem)
    refine ⟨p, C, dx, vs, rfl, h3, hc, hn, by rw [Paired.length h4]; exact hl, ?_⟩
    exact o.nx _ _ _ _ _ hk (e1.trans e2) (At.put (A := ⟨A2.I, A2.cells ++ R⟩) a2 hu.app ⟨_, upd_same, kvr_putF (r1.mono e2) h4⟩) (sd.mono (e1.trans e2))
theorem wp_meth (h : Wp K A to S fun A1 s => ∃ p dx fs, s = .ptr p ∧ (p, .ins C dx fs) ∈ A1.cells ∧ fs.lookup m = none ∧ WpA K A1 ta S fun A2 ss => W (.ptr p :: ss) A2 k) : Wp K A (tMeth C m (spW K W) [] EX to ta) S k := fun R F σ H Q a sd q =>
  h R F σ H _ a sd fun A1 s v F1 H1 ⟨p, dx, fs, hs, hp, hl, hw⟩ e1 a1 r1 => by
    subst hs
    obtain rfl : v = .ref p := r1
    obtain ⟨_, _, vs, h1, h2⟩ := At.cell a1 p _ (List.mem_append_left _ hp)
    refine ⟨p, dx, vs, rfl, h1, (kvr_lookup h2).2 hl, hw R F1 σ H1 _ a1 (sd.mono e1) fun A2 ss us F2 H2 h3 e2 a2 r2 => ?_⟩
    show spW K W (.ref p :: (us ++ [])) H2 Q EX
    rw [List.append_nil]
    exact ⟨A2, R, F2, _, k, a2, .cons (show SR K F2 (.ref p) (.ptr p) from rfl) r2, h3, q.mono (e1.trans e2)⟩
theorem wp_make (h : WpA K A ta S fun A1 ss => ∀ x dx, W (.ptr x :: ss) (A1.add x (.ins C dx [])) (fun A2 s => s = .dat .none ∧ k A2 (.ptr x))) : Wp K A (tMake C (spW K W) [] EX ta) S k := fun R F σ H Q a sd q =>
  h R F σ H _ a sd fun A1 ss vs F1 H1 h1 e1 a1 r1 x dx hx hdx hne => by
    show spW K W (.ref x :: (vs ++ [])) _ _ EX
    rw [List.append_nil]
    obtain ⟨a2, e2⟩ := a1.alloc (o := .own x) hdx
    have hx2 : (upd H1 dx (.own x)) x = none := by rw [upd_ne (Ne.symm hne)]; exact hx
    have a3 := AtR.new (o := .ins C dx []) (c := .ins C dx []) a2 hx2 ⟨[], upd_same, .nil⟩
    refine ⟨_, R, _, _, _, a3, .cons (show SR K _ (.ref x) (.ptr x) from rfl) (r1.mono e2), h1 x dx, fun A2 s v F2 H2 hk e3 a4 r4 => ?_⟩
    obtain ⟨rfl, hk⟩ := hk
    have r5 : Dt K F2 v .none := r4
    cases r5
    exact ⟨rfl, q A2 _ _ F2 H2 hk ((e1.trans e2).trans e3) a4 rfl⟩
/-! ### isinstance(x, (a, b)) -/
def tyD : PyData → String
  | .none => "NoneType"
  | .bool _ => "bool"
  | .int _ => "int"
  | .str _ => "str"
  | .list _ => "list"
  | .tuple _ => "tuple"
  | .dict _ => "dict"
theorem tyx_dt {F : Hp} {v : V} {d : PyData} (h : Dt K F v d) : TyX K F v (.type (tyD d)) := by
  cases h with
  | non => exact .base .non
  | bl b => exact .base (.bl b)
  | int i => exact .base (.int i)
  | str x => exact .base (.str x)
  | lst h1 _ => exact .base (.lst h1)
  | tup h1 _ =>
    rcases h1 with (h1 | ⟨o, h1⟩) | ⟨o, its, n, h1, h2, _⟩
    · exact .base (.tup h1)
    · exact .fTuple h1
    · exact .kTuple h1 h2
  | dct h1 _ _ => exact .base (.dK h1)
theorem TyX.monoS {F H : Hp} (e : Same F H) {v : V} {d : PyData} (h : Dt K F v d) : TyX K H v (.type (tyD d)) := tyx_dt (h.mono e)
theorem call_isiTK (K : PySem.W.Frag) {X : Cx} (h : X.K = K := by rfl) : CallR X (.builtin "isinstance") (rIsiT K) := h ▸ call_isiT
theorem isK_ty {T : String} (hT : T = "list" ∨ T = "tuple") (d : PyData) : PySem.W.kitOne K (.type (tyD d)) (.type T) = some (isK T d) := by
  rcases hT with rfl | rfl
  · cases d with
    | none => exact kit_ty (a := "NoneType") (b := "list") (r := false) (by decide +kernel)
    | bool b => exact kit_ty (a := "bool") (b := "list") (r := false) (by decide +kernel)
    | int i => exact kit_ty (a := "int") (b := "list") (r := false) (by decide +kernel)
    | str x => exact kit_ty (a := "str") (b := "list") (r := false) (by decide +kernel)
    | list xs => exact kit_ty (a := "list") (b := "list") (r := true) (by decide +kernel)
    | tuple xs => exact kit_ty (a := "tuple") (b := "list") (r := false) (by decide +kernel)
    | dict kvs => exact kit_ty (a := "dict") (b := "list") (r := false) (by decide +kernel)
  · cases d with
    | none => exact kit_ty (a := "NoneType") (b := "tuple") (r := false) (by decide +kernel)
    | bool b => exact kit_ty (a := "bool") (b := "tuple") (r := false) (by decide +kernel)
    | int i => exact kit_ty (a := "int") (b := "tuple") (r := false) (by decide +kernel)
    | str x => exact kit_ty (a := "str") (b := "tuple") (r := false) (by decide +kernel)
    | list xs => exact kit_ty (a := "list") (b := "tuple") (r := false) (by decide +kernel)
    | tuple xs => exact kit_ty (a := "tuple") (b := "tuple") (r := true) (by decide +kernel)
    | dict kvs => exact kit_ty (a := "dict") (b := "tuple") (r := false) (by decide +kernel)
theorem wp_isi2 {a b : String} (ha : a = "list" ∨ a = "tuple") (hb : b = "list" ∨ b = "tuple") (h : Wp K A te S fun A1 s => ∃ d, s = .dat d ∧ k A1 (.dat (.bool (isK a d || isK b d)))) :
    Wp K A (tCB (rIsiT K) (tCons te (tCons (tTup (tCons (tC (.ty a)) (tCons (tC (.ty b)) tNil))) tNil))) S k := fun R F σ H Q at' sd q =>
  h R F σ H _ at' sd fun A1 s v F1 H1 ⟨d, hs, hk⟩ e1 a1 r1 => by
    subst hs
    refine ⟨by show 2 ≤ sizeLine; decide, fun T hT => ?_⟩
    obtain ⟨a2, e2⟩ := a1.alloc (o := .tup [.ty a, .ty b]) hT
    have r1' : Dt K F1 v d := r1
    refine ⟨v, T, [.ty a, .ty b], .type (tyD d), [.type a, .type b], _, rfl, upd_same, .cons (.ty a) (.cons (.ty b) .nil), TyX.monoS a2.same (r1'.mono e2), ?_, q A1 _ _ _ _ hk (e1.trans e2) a2 (.bl _)⟩
    refine kitAny_cons (isK_ty ha d) (fun ea => ?_) (fun ea => by rw [ea]; rfl)
    rw [ea, Bool.false_or]
    refine kitAny_cons (isK_ty hb d) (fun eb => ?_) (fun eb => eb)
    rw [eb]
    rfl
end
/-! ### xs[::s], s one or minus one -/
def tStepL (K : PySem.W.Frag) (te : TE) (ts : TO) : TE := fun σ H Q => te σ H fun x H1 => ts σ H1 fun o H2 => ∃ a xs, x = .ref a ∧ SqL K H2 a xs ∧ ∃ ys : List V, ((o = some 1 ∧ ys = xs) ∨ (o = some (-1) ∧ ys = xs.reverse)) ∧ ∀ p, H2 p = none → Q (.ref p) (upd H2 p (.lst ys))
theorem pick_one (its : List Value) : slicePick its.toArray none none (some 1) = its.toArray := by
  have h : slicePick its.toArray none none (some 1) = slicePick its.toArray none none none := rfl
  rw [h, slicePick_cut]
  simp [HT.sIx]
theorem pe_stepL {X : Cx} {e st : Expr} {te : TE} {ts : TO} {p3 pos : Pos} (he : PE X e te) (hst : PO X (some st) ts) : PE X (.Subscript e (.Slice none none (some st) p3) pos) (tStepL X.K te ts) := by
  refine ⟨fun pins s σ H Q I h => ?_⟩
  refine Subscript_ (thn (he.run pins s σ H _ I h) fun v s1 ⟨x, H1, I1, r1, q1⟩ => ?_)
  refine wpAny_Slice (thn (po_none.run pins s1 σ H1 (fun o H2 => o = none ∧ H2 = H1) I1 ⟨rfl, rfl⟩) fun vl s2 ⟨l, H2, I2, pl, el, e2⟩ => ?_)
  subst el e2
  refine thn (po_none.run pins s2 σ H2 (fun o H3 => o = none ∧ H3 = H2) I2 ⟨rfl, rfl⟩) fun vu s3 ⟨u, H3, I3, pu, eu, e3⟩ => ?_
  subst eu e3
  refine thn (hst.run pins s3 σ H3 _ I3 q1) fun vs s4 ⟨o, H4, I4, ps, q⟩ => ?_
  obtain ⟨a, xs, ex, hx, ys, hy, q⟩ := q
  subst ex
  cases r1
  have I5 : Inv X pins σ H4 { s4 with heap := s4.heap.push { cls := .type "slice", data := .fields #[vl, vu, vs] } } := I4.kept (t' := s4.toks) fun b ob q => Heap.get?_push_of_some _ q
  obtain ⟨its, r, ht, hz⟩ := I5.list hx
  have hlen := r.length
  show wpAny (model X.prog X.w) X.A (subscriptTail e (.Slice none none (some st) p3) (.ref a) (.ref s4.heap.objs.size)) (EP X pins σ Q) X.xe { s4 with heap := s4.heap.push { cls := .type "slice", data := .fields #[vl, vu, vs] } }
  refine tail_any (ops := [.ref a, .ref s4.heap.objs.size]) ht.isList.typeIs (PySem.slot_list_getitem.lookup) ?_ (by with_unfolding_all rfl)
  rcases hy with ⟨rfl, rfl⟩ | ⟨rfl, rfl⟩
  · refine wpAny_getItem_list_slice ht.isList (Heap.IsSliceOf.new _ vl vu vs) pl pu ps (by decide) ?_ (by rw [List.size_toArray]; omega)
    rw [pick_one]
    refine ⟨.ref _, _, I5.laid (t' := s4.toks) (o := .lst ys) (fun b ob q => Heap.get?_push_of_some _ q) (Nat.le_refl _) ?_, rfl, q _ (I5.hok.fresh (Nat.le_refl _))⟩
    exact ⟨hz, _, 0, r, Heap.get?_push_size _ rfl⟩
  · refine wpAny_getItem_list_slice ht.isList (Heap.IsSliceOf.new _ vl vu vs) pl pu ps (by decide) ?_ (by rw [List.size_toArray]; omega)
    rw [PySem.W.krv_pick]
    refine ⟨.ref _, _, I5.laid (t' := s4.toks) (o := .lst xs.reverse) (fun b ob q => Heap.get?_push_of_some _ q) (Nat.le_refl _) ?_, rfl, q _ (I5.hok.fresh (Nat.le_refl _))⟩
    exact ⟨by rw [List.length_reverse]; exact hz, _, 0, r.reverse, Heap.get?_push_size _ rfl⟩
theorem pe_stepLK (K : PySem.W.Frag) {X : Cx} {e st : Expr} {te : TE} {ts : TO} {p3 pos : Pos} (he : PE X e te) (hst : PO X (some st) ts) (h : X.K = K := by rfl) : PE X (.Subscript e (.Slice none none (some st) p3) pos) (tStepL K te ts) := h ▸ pe_stepL he hst
theorem dt_rev {K : PySem.W.Frag} {F : Hp} {xs : List V} {ds : List PyData} (h : DtAll K F xs ds) : DtAll K F xs.reverse ds.reverse := by
  induction ds generalizing xs with
  | nil => cases h; exact .nil
  | cons d ds ih =>
    cases h with
    | cons h t =>
      rw [List.reverse_cons, List.reverse_cons]
      exact (ih t).append (.cons h .nil)
section
variable {K : PySem.W.Frag} {A : Amb} {S : List SV} {k : KA} {te : TE} {ts : TO}
theorem wp_stepL (h : Wp K A te S fun A1 s => WpO K A1 ts S fun A2 o => ∃ ds es : List PyData, s = .dat (.list ds) ∧ ((o = some 1 ∧ es = ds) ∨ (o = some (-1) ∧ es = ds.reverse)) ∧ k A2 (.dat (.list es))) : Wp K A (tStepL K te ts) S k := fun R F σ H Q a sd q =>
  h R F σ H _ a sd fun A1 s v F1 H1 h1 e1 a1 r1 => h1 R F1 σ H1 _ a1 (sd.mono e1) fun A2 o F2 H2 ⟨ds, es, hs, ho, hk⟩ e2 a2 => by
    subst hs
    obtain ⟨p, xs, rfl, g1, g2⟩ := sr_lst (SR.mono e2 r1)
    refine ⟨p, xs, rfl, .inl (.inl (a2.same _ _ g1)), ?_⟩
    rcases ho with ⟨rfl, rfl⟩ | ⟨rfl, rfl⟩
    · refine ⟨xs, .inl ⟨rfl, rfl⟩, fun n hn => ?_⟩
      obtain ⟨a3, e3⟩ := a2.alloc (o := .lst xs) hn
      exact q _ _ _ _ _ hk ((e1.trans e2).trans e3) a3 (.lst upd_same (g2.mono e3))
    · refine ⟨xs.reverse, .inr ⟨rfl, rfl⟩, fun n hn => ?_⟩
      obtain ⟨a3, e3⟩ := a2.alloc (o := .lst xs.reverse) hn
      exact q _ _ _ _ _ hk ((e1.trans e2).trans e3) a3 (.lst upd_same ((dt_rev g2).mono e3))
end
theorem pe_fldK (K : PySem.W.Frag) {X : Cx} {e : Expr} {f : Str} {pos : Pos} {ta : TE} (he : PE X e ta) (hb : attributeBase e f X.env (eval e X.env) = eval e X.env) (h : X.K = K := by rfl) : PE X (.Attribute e f pos) (tFld K ta f) := h ▸ pe_fld he hb
def rAbs : List V → Hp → VK → Prop := fun xs H Q => ∃ i, xs = [.int i] ∧ Q (.int (if i < 0 then -i else i)) H
theorem call_absN {X : Cx} : CallR X (.builtin "abs") rAbs := call_abs
theorem cw_abs {K : PySem.W.Frag} {A : Amb} {k : KA} {i : Int} (h : k A (.dat (.int (if i < 0 then -i else i)))) : CW K rAbs [.dat (.int i)] A k := fun R F H vs Q a r q => by
  obtain ⟨v, rfl, r1⟩ := one_of r
  obtain rfl := sr_int r1
  exact ⟨i, rfl, q A _ _ F H h (Same.refl F) a (.int _)⟩
theorem wp_dnew {K : PySem.W.Frag} {A : Amb} {S : List SV} {k : KA} (h : ∀ p, k (A.add p (.dk [])) (.ptr p)) : Wp K A tDNewK S k := fun R F σ H Q a sd q p hp => q _ _ _ _ _ (h p) (Same.refl F) (a.new (o := .dK []) (c := .dk []) hp ⟨[], upd_same, .nil⟩) rfl
section
variable {α : Type} {K : PySem.W.Frag} {A : Amb} {S : List SV} {k : KA} {te : TE} {tt : TT} {wi : TI} {g : TG} {vs : List Nat}
/-- .. the items known when the source has been told -/
theorem wp_lcMOX {enc : α → PyData} (to : TOnly g vs) (p : α → Bool) (f : α → PyData)
    (h : IW K A wi S fun A1 ss => ∃ xs : List α, xs.length ≤ sizeLine ∧ ss = (xs.map enc).map .dat ∧ (∀ x ∈ xs, LcItem K g tt te S vs A1 (.dat (enc x)) (p x) (f x)) ∧ ∀ q, k (A1.add q (.lst (((xs.filter p).map f).map .dat))) (.ptr q)) : Wp K A (tLc wi g tt te vs) S k :=
  wp_lcO to <| IW.imp h fun A1 ss ⟨xs, hl, e, hs, hk⟩ => by
    subst e
    refine ⟨fun i A2 acc => A2 = A1 ∧ i ≤ xs.length ∧ acc = (((xs.take i).filter p).map f).map .dat, ⟨rfl, Nat.zero_le _, by simp⟩, fun i s hi A2 acc ⟨e1, e0, e2⟩ => ?_, fun A2 acc ⟨e1, e0, e2⟩ q => ?_⟩
    · subst e1; subst e2
      obtain ⟨x, hx, rfl⟩ := get_enc hi
      have hlt := (List.getElem?_eq_some_iff.mp hx).1
      refine (hs x (List.mem_of_getElem? hx)).imp fun A3 S3 h3 => h3.imp fun A4 b ⟨e5, h5, h6⟩ => ⟨fun hb => ?_, fun hb => ?_⟩
      · rw [e5] at hb
        refine (h5 hb).imp fun A5 s5 ⟨e6, e7⟩ => ?_
        subst e6; subst e7
        refine ⟨?_, rfl, hlt, by rw [filter_take p f hx, if_pos hb, List.map_append]; rfl⟩
        have h1 := List.length_filter_le p (xs.take i)
        have h2 : (xs.take i).length = i := by rw [List.length_take]; omega
        rw [List.length_map, List.length_map]
        omega
      · rw [e5] at hb
        have := h6 hb
        subst this
        exact ⟨rfl, hlt, by rw [filter_take p f hx, if_neg (by rw [hb]; exact Bool.false_ne_true), List.append_nil]⟩
    · subst e1; subst e2
      rw [List.length_map, List.length_map, List.take_length]
      exact hk q
theorem wp_lcAX {enc : α → PyData} (to : TOnly g vs) (f : α → PyData)
    (h : IW K A wi S fun A1 ss => ∃ xs : List α, xs.length ≤ sizeLine ∧ ss = (xs.map enc).map .dat ∧ (∀ x ∈ xs, GW K g (.dat (enc x)) (wipeS S vs) A1 fun A3 S3 => Wp K A3 te S3 fun A5 s5 => A5 = A1 ∧ s5 = .dat (f x)) ∧ k A1 (.dat (.list (xs.map f)))) : Wp K A (tLc wi g tYes te vs) S k :=
  wp_frz <| wp_lcMOX (enc := enc) to (fun _ => true) f <| IW.imp h fun A1 ss ⟨xs, hl, e, hs, hk⟩ => ⟨xs, hl, e, fun x hx => lc_item (hs x hx), fun q => ⟨q, _, A1.cells, rfl, .head, by rw [filter_true]; exact hk⟩⟩
end
/-- a, b = x, y with owned things among them -/
theorem go_asgT {K : PySem.W.Frag} {A : Amb} {S : List SV} {E : DE} {ta : TA} {n : Nat} {u : TGs} (h : WpA K A ta S fun A1 ss => ss.length = n ∧ n ≤ 64 ∧ GWs K u ss S A1 E.nx) : Go K A (tAsg (tTup ta) (gTup K n u)) S E := fun R F σ H D a sd o =>
  h R F σ H _ a sd fun A1 ss vs F1 H1 ⟨hn, h64, hg⟩ e1 a1 r1 => by
    have hl : vs.length = n := by rw [Paired.length r1]; exact hn
    refine ⟨by rw [hl]; exact Nat.le_trans h64 (by decide), fun p hp => ?_⟩
    obtain ⟨a2, e2⟩ := a1.alloc (o := .tup vs) hp
    exact ⟨p, vs, rfl, SqT.of upd_same, hl, hg R _ σ _ vs _ a2 ((sd.mono e1).mono e2) (r1.mono e2) (o.nx.mono (e1.trans e2))⟩
theorem op_neDK {X : Cx} (hu : X.A.units + 65 < cLine) : OpR X (compareOp .NotEq) rNeDA := op_ne_dictA (by omega)
end DL

/-! len(set(xs)) of unlike texts; slices with a step. -/
namespace DL
open PySem L2 RZ PyProof.Rows
open Sem (wp)
section
variable {prog : Program} {w : World} {A : Around} {R : Result → Shared → Prop} {I : Addr} {fp wr : List Addr} {G : Array GenState → Array GenState → Prop} {n : Nat} {P : Nat → Value → Prop} {St : Nat → Shared → Prop}
/-- each text is new to the set -/
theorem loop_texts (W : WalksS prog w A.in1 I fp wr G n P St) (S : Addr) (hSf : S ∉ fp) (xs : List Str) (hsz : xs.length = n) (hn1 : n < 4000) (hnd : xs.Nodup)
    (hval : ∀ i v, P i v → ∃ t, v = .str (xs.getD i Str.empty) t) :
    ∀ (k i : Nat) (s : Shared), n - i = k → i ≤ n → St i s →
      s.heap.SetOf (PySem.strKind prog w) S (fun k' => (xs.take i).any (· == k')) i →
      (∀ s', Moved (S :: wr) G s s' → s'.heap.SetOf (PySem.strKind prog w) S (fun k' => (xs.take n).any (· == k')) n → R (.ok (.ret .none)) s') →
      codeAny (model prog w) A (.builtin "set.update.loop" ⟨[.ref S, .ref I], []⟩) R s := by
  have hSw : S ∉ wr := fun h => hSf (W.sub _ h)
  have hsub : ∀ b ∈ wr, b ∈ S :: wr := fun b hb => List.mem_cons_of_mem _ hb
  intro k
  induction k with
  | zero =>
    intro i s hk hi hst hS hR
    have hin : i = n := by omega
    subst hin
    refine codeAny_builtin PyProof.Rows.F.entry_set_update_loop ?_
    rw [Around.under_plainId PyProof.Rows.F.plain_set_update_loop _]
    show wpAny _ A.in1 (pyNext (.ref I) >>= _) _ _ s
    refine wpAny_bind (W.done s _ _ hst fun s' hm => ?_)
    show wpAny _ A.in1 (ret Value.none) _ _ s'
    refine wpAny_pure (hR s' (hm.mono hsub) ?_)
    obtain ⟨o, es, ep, t, ho, rest⟩ := hS
    exact ⟨o, es, ep, t, hm.heap S _ hSw ho, rest⟩
  | succ k ih =>
    intro i s hk hi hst hS hR
    have hlt : i < n := by omega
    refine codeAny_builtin PyProof.Rows.F.entry_set_update_loop ?_
    rw [Around.under_plainId PyProof.Rows.F.plain_set_update_loop _]
    show wpAny _ A.in1 (pyNext (.ref I) >>= _) _ _ s
    refine wpAny_bind (W.item i s _ _ hlt hst fun v s' hP hst' hm => ?_)
    obtain ⟨t, rfl⟩ := hval i v hP
    have hS' : s'.heap.SetOf (PySem.strKind prog w) S (fun k' => (xs.take i).any (· == k')) i := by
      obtain ⟨o, es, ep, tb, ho, rest⟩ := hS
      exact ⟨o, es, ep, tb, hm.heap S _ hSw ho, rest⟩
    have hx : xs[i]? = some (xs.getD i Str.empty) := by
      rw [List.getD_eq_getElem?_getD, List.getElem?_eq_getElem (by omega)]
      rfl
    have hnew : ((xs.take i).any (· == xs.getD i Str.empty)) = false := by
      rw [List.any_eq_false]
      intro y hy e
      rw [beq_iff_eq] at e
      subst e
      obtain ⟨j, hj⟩ := List.getElem?_of_mem hy
      rw [List.getElem?_take] at hj
      split at hj
      · rename_i hlt2
        have := (List.getElem?_inj (List.getElem?_eq_some_iff.mp hj).1 hnd).mp (hj.trans hx.symm)
        omega
      · cases hj
    show wpAny _ A.in1 (holding [Value.str (xs.getD i Str.empty) t] (setAdd S (.str (xs.getD i Str.empty) t)) >>= _) _ _ s'
    refine wpAny_bind (wpAny_holding ?_)
    unfold setAdd
    refine wpAny_holding ?_
    refine wpAny_bind ((PySem.strKind prog w).pyHash (k := xs.getD i Str.empty) (strKind_is _ _ _ _) ?_)
    refine wpAny_setAddHashed_of (knd := PySem.strKind prog w) (s := { s' with toks := s'.toks + 1 }) (strKind_is _ _ _ _) rfl hS' (by unfold scanBound; omega) fun h' hsb hS2 => ?_
    have hSi : h'.SetOf (PySem.strKind prog w) S (fun k' => (xs.take (i + 1)).any (· == k')) (i + 1) := by
      refine PyProof.Rows.SetOf_congr hS2 (fun k' => ?_) ?_
      · rw [List.take_add_one, hx, List.any_append]
        show (_ || decide (k' = _)) = (_ || ((_ == k') || false))
        rw [Bool.or_false]
        congr 1
        by_cases e : k' = xs.getD i Str.empty
        · subst e; simp
        · have e2 : ¬ xs.getD i Str.empty = k' := fun z => e z.symm
          have hb : (xs.getD i Str.empty == k') = false := beq_eq_false_iff_ne.mpr e2
          rw [hb, decide_eq_false e]
      · rw [hnew]
        simp
    refine wpAny_pure ⟨plainId_quiet PyProof.Rows.F.plain_set_update_loop _, ih (i + 1) _ (by omega) hlt (W.frame _ s' _ _ hst' (Nat.le_succ _) fun b hb o e => ?_) hSi fun s'' hm'' hS'' => ?_⟩
    · rw [hsb.2 b (fun h : b = S => hSf (by rw [← h]; exact hb))]; exact e
    · refine hR s'' (Moved.trans W.gtrans ((hm.mono hsub).then_heap (Nat.le_succ _) fun b o hb e => ?_) hm'') hS''
      rw [hsb.2 b (fun h : b = S => hb (by rw [h]; exact List.mem_cons_self))]; exact e
end
section
variable {prog : Program} {w : World} {A : Around} {E : Value → Shared → Prop} {s : Shared}
theorem call_set_texts {l : Addr} {items : Array Value} {xs : List Str} {Q : Value → Shared → Prop}
    (hh : A.handled = none) (hl : s.heap.IsList l items) (hi : PyProof.Rows.StrsAre items.toList xs) (hn1 : xs.length < 4000) (hnd : xs.Nodup)
    (h : ∀ (h' : Heap) (tk : Nat), h'.SetOf (PySem.strKind prog w) s.heap.objs.size (fun k' => (xs.take items.size).any (· == k')) items.size →
      (∀ b o, b < s.heap.objs.size → s.heap.get? b = some o → h'.get? b = some o) → Q (.ref s.heap.objs.size) { s with heap := h', toks := tk }) :
    wpAny (model prog w) A (call (.type "set") [.ref l]) Q E s := by
  obtain ⟨c, tl, hmro⟩ := PySem.F.called_set.mro
  have hmade := PySem.F.called_set.made
  have hsub := PySem.F.called_set.sub
  refine wpAny_call (codeAny_of_tree ?_)
  show wpAny _ _ (callAny (.type "set") _) _ _ _
  refine wpAny_pure ⟨Code.quiet_builtin _ (by decide +kernel), codeAny_builtin PySem.F.entry_type_call ?_⟩
  rw [Around.under_plain (weight_type_call_type "set" [.ref l] []) rfl]
  have h1 := PySem.F.called_set.notType
  have h2 := PySem.F.called_set.canCreate
  have hct := PySem.F.typeCall_set_1 (.ref l)
  repeat (any_goals (first | assumption | wp_step))
  refine codeAny_mono (code_set_new_1 (.ref l) (E := E) (Q₁ := fun obj s₁ => ∃ led : Bool, obj = .ref s.heap.objs.size ∧ s₁ = { s with heap := s.heap.push { cls := .type "set", dict := none, data := .set #[] 0 (.fresh 0 0 led) } }) fun led => ⟨led, rfl, rfl⟩) fun r s₁ hr => ?_
  cases r with
  | error e => exact hr
  | ok fl =>
    cases fl with
    | ret obj =>
      obtain ⟨led, rfl, rfl⟩ := hr
      have hS : (s.heap.push { cls := .type "set", dict := none, data := .set #[] 0 (.fresh 0 0 led) }).get? s.heap.objs.size = some { cls := .type "set", dict := none, data := .set #[] 0 (.fresh 0 0 led) } := Heap.get?_push_size _ rfl
      have hT : Shared.TypeIs { s with heap := s.heap.push { cls := .type "set", dict := none, data := .set #[] 0 (.fresh 0 0 led) } } (.ref s.heap.objs.size) "set" := ⟨_, hS, rfl⟩
      have hli := PySem.F.called_set.init.lookup
      have hbi := PySem.F.called_set.init.bind (.ref s.heap.objs.size)
      repeat (any_goals (first | assumption | wp_step))
      refine codeAny_mono (codeAny_call_builtin (R := wants (fun r s₂ => r = .none ∧ ∃ h' tk, s₂ = { s with heap := h', toks := tk } ∧
          h'.SetOf (PySem.strKind prog w) s.heap.objs.size (fun k' => (xs.take items.size).any (· == k')) items.size ∧
          (∀ b o, b < s.heap.objs.size → s.heap.get? b = some o → h'.get? b = some o)) E) PySem.F.called_set.init.plain PySem.F.entry_set_init (check_set_init_1 hT ?_)) fun r₂ s₂ hr₂ => ?_
      · obtain ⟨ol, hol, hcl, nl, hdl⟩ := hl
        obtain ⟨ocls, odict, odata, oslots⟩ := ol
        simp only at hcl hdl
        subst hcl; subst hdl
        have hol' : (s.heap.push { cls := .type "set", dict := none, data := .set #[] 0 (.fresh 0 0 led) }).get? l = some { cls := .type "list", dict := odict, data := .seq items nl, slots := oslots } := Heap.get?_push_of_some _ hol
        have hsls := PySem.F.sub_list_set
        have hslf := PySem.F.sub_list_frozenset
        have hne : (Value.type "list" == Value.type "dict") = false := by decide
        have hl1 : (s.heap.push { cls := .type "set", dict := none, data := .set #[] 0 (.fresh 0 0 led) }).IsList l items := ⟨_, hol', rfl, nl, rfl⟩
        unfold Builtin.«set.__init__» noKeywords Builtin.Frozenset.updateFrom
        generalize hPI : pyIter = PI
        wp_walk
        subst hPI
        refine wpAny_pyIter_list hl1 ?_
        refine wpAny_bind (wpAny_runValue ?_)
        have hlS : l < s.heap.objs.size := Heap.lt_size hol
        have hh3 : A.in1.in1.in1.handled = none := by simp [hh]
        have hneI : l ≠ (s.heap.push { cls := .type "set", dict := none, data := .set #[] 0 (.fresh 0 0 led) }).objs.size := by
          rw [Heap.size_push]; exact Nat.ne_of_lt (Nat.lt_succ_of_lt hlS)
        have hSf : s.heap.objs.size ∉ [(s.heap.push { cls := .type "set", dict := none, data := .set #[] 0 (.fresh 0 0 led) }).objs.size, l] := by
          rw [Heap.size_push]; simp only [List.mem_cons, List.not_mem_nil, or_false, not_or]
          exact ⟨Nat.ne_of_lt (Nat.lt_succ_self _), Nat.ne_of_gt hlS⟩
        have hsz : xs.length = items.size := by rw [← StrsAre.len_eq hi, Array.length_toList]
        have hval : ∀ (i : Nat) (v : Value), items[i]? = some v → ∃ t, v = .str (xs.getD i Str.empty) t := fun i v hv => SS.strs_at hi i v (by rw [Array.getElem?_toList]; exact hv)
        refine loop_texts ((Walks.list hh3 _ l hneI items).toS) s.heap.objs.size
          hSf xs hsz (by rw [← hsz]; exact hn1) hnd hval (items.size - 0) 0 _ (by omega) (Nat.zero_le _)
          ⟨⟨_, Heap.get?_push_size _ rfl, rfl, rfl⟩, (hl1.push _)⟩ ?hS0 ?hR
        case hS0 =>
          have hget : ((s.heap.push { cls := .type "set", dict := none, data := .set #[] 0 (.fresh 0 0 led) }).push { cls := .type "list_iterator", data := .fields #[.ref l, .int 0 0] }).get? s.heap.objs.size
              = some { cls := .type "set", dict := none, data := .set #[] 0 (.fresh 0 0 led) } := Heap.get?_push_of_some _ hS
          exact PyProof.Rows.SetOf_congr ((PyProof.Rows.setObjOf_fresh (knd := PySem.strKind prog w) led).setOf hget (by unfold scanBound; omega)) (fun _ => rfl) rfl
        case hR =>
          intro s' hm hS'
          obtain ⟨h', g', d', tk', os'⟩ := s'
          have eg : g' = s.gens := hm.gens
          have ed : d' = s.drawn := hm.drawn
          have eo : os' = s.os := hm.os
          subst eg; subst ed; subst eo
          show wpAny _ _ _ _ _ _
          refine wpAny_pure ?_
          show wpAny _ _ (ret Value.none) _ _ _
          refine wpAny_pure ⟨rfl, h', tk', rfl, hS', fun b o hb e => ?_⟩
          have hb1 : b ≠ s.heap.objs.size := Nat.ne_of_lt hb
          have hb2 : b ≠ (s.heap.push { cls := .type "set", dict := none, data := .set #[] 0 (.fresh 0 0 led) }).objs.size := by
            rw [Heap.size_push]; exact Nat.ne_of_lt (Nat.lt_succ_of_lt hb)
          exact hm.heap b o (by simp only [List.mem_cons, List.not_mem_nil, or_false, not_or]; exact ⟨hb1, hb2⟩) (Heap.get?_push_of_some _ (Heap.get?_push_of_some _ e))
      · cases r₂ with
        | error e => exact hr₂
        | ok fl₂ =>
          cases fl₂ with
          | ret r =>
            obtain ⟨rfl, h', tk, rfl, hS', hk'⟩ := hr₂
            repeat (any_goals (first | assumption | wp_step))
            exact h _ _ hS' hk'
          | _ => exact hr₂.elim
    | _ => exact hr.elim
end
/-- len(set(xs)), xs a list of unlike texts -/
def tLenSetX (K : PySem.W.Frag) (ta : TE) : TE := fun σ H Q => ta σ H fun x H1 => ∃ l, ∃ xs : List Str, x = .ref l ∧ SqL K H1 l (xs.map V.str) ∧ xs.length < 4000 ∧ xs.Nodup ∧ Q (.int xs.length) H1
theorem pe_lenSetX {X : Cx} {a : Expr} {ta : TE} {p p2 q pos : Pos} (hc : X.calm = true) (hg : Gl X "len") (hm : X.mg "len" = none) (hg2 : Gl X "set") (hm2 : X.mg "set" = none) (ha : PE X a ta)
    (na : starEach [a] X.env = (false, eval a X.env) :: starEach [] X.env := by rfl) : PE X (.Call (.Name "len" p) [.Call (.Name "set" p2) [a] [] q] [] pos) (tLenSetX X.K ta) := by
  refine ⟨fun pins s σ H Q I h => ?_⟩
  refine Call_ (ld_blt I hg hm boot_len ?_)
  refine PyProof.Rows.callWith_builtin1 (PyProof.Rows.args_cons ?_ rfl) rfl rfl
  refine Call_ (ld_blt I hg2 hm2 boot_set ?_)
  refine PyProof.Rows.callWith_type1 (PyProof.Rows.args_cons (thn (ha.run pins s σ H _ I h) fun v s1 ⟨x, H1, I1, r1, q1⟩ => PyProof.Rows.args_nil ?_) na) na rfl
  obtain ⟨l, xs, rfl, hq, h1, h2, q1⟩ := q1
  cases r1
  obtain ⟨its, r, pl, hz⟩ := I1.list hq
  refine call_set_texts (I1.ok.hd hc) pl.isList (by simpa using strsAre_of r) h1 h2 fun h' tk hS hk => ?_
  refine PyProof.Rows.args_nil ?_
  have hl : its.toArray.size = xs.length := by rw [List.size_toArray, ← r.length, List.length_map]
  rw [hl] at hS
  obtain ⟨o, es, ep, t, ho, hex, hd, _, _, _, hf, hn⟩ := hS
  have I2 : Inv X pins σ H1 { s1 with heap := h', toks := tk } := I1.kept fun b o e => hk b o (Heap.lt_size e) e
  exact call_len_set ho hex hd hf (by rw [hn] <;> omega) ⟨.int xs.length, H1, I2.tok _, ⟨_, by rw [hn]⟩, q1⟩
theorem pe_lenSetXK (K : PySem.W.Frag) {X : Cx} {a : Expr} {ta : TE} {p p2 q pos : Pos} (hc : X.calm = true) (hg : Gl X "len") (hm : X.mg "len" = none) (hg2 : Gl X "set") (hm2 : X.mg "set" = none) (ha : PE X a ta)
    (na : starEach [a] X.env = (false, eval a X.env) :: starEach [] X.env := by rfl) (h : X.K = K := by rfl) : PE X (.Call (.Name "len" p) [.Call (.Name "set" p2) [a] [] q] [] pos) (tLenSetX K ta) := h ▸ pe_lenSetX hc hg hm hg2 hm2 ha na
section
variable {K : PySem.W.Frag} {A : Amb} {S : List SV} {k : KA} {ta : TE}
theorem wp_lenSet (h : Wp K A ta S fun A1 s => ∃ xs : List Str, s = .dat (.list (xs.map .str)) ∧ xs.length < 4000 ∧ xs.Nodup ∧ k A1 (.dat (.int xs.length))) : Wp K A (tLenSetX K ta) S k := fun R F σ H Q a sd q =>
  h R F σ H _ a sd fun A1 s v F1 H1 ⟨xs, hs, h1, h2, hk⟩ e1 a1 r1 => by
    subst hs
    obtain ⟨p, vs, rfl, f1, f2⟩ := sr_lst r1
    obtain rfl := dt_strs f2
    exact ⟨p, xs, rfl, .inl (.inl (a1.same _ _ f1)), h1, h2, q A1 _ _ F1 H1 hk e1 a1 (.int _)⟩
end
end DL

/-! a, b, *c = t. -/
namespace DL
open PySem L2 RZ PyProof.Rows
open Sem (wp)
section
variable {prog : Program} {w : World} {A : Around} {E : Value → Shared → Prop} {s : Shared}
theorem walk_from (hh : A.handled = none) (I ax : Addr) (hne : ax ≠ I) (items : Array Value) (i0 : Nat) (hi0 : i0 ≤ items.size) :
    Walks prog w A I [I, ax] [I] (items.size - i0) (fun j v => items[i0 + j]? = some v) (fun j h => h.IsTupleIter I ax (i0 + j) ∧ h.IsTuple ax items) where
  sub := fun b hb => by simp at hb; simp [hb]
  frame := fun _ _ _ st hk => ⟨st.1.at fun o e => hk I (by simp) o e, st.2.at fun o e => hk ax (by simp) o e⟩
  item := fun i s Q E hi st hQ => by
    have hlt : i0 + i < items.size := by omega
    refine wpAny_pyNext_tuple_item st.1 st.2 (x := items[i0 + i]) (by simp [hlt]) fun h' hit' hs' => ?_
    exact hQ _ h' s.toks (by simp [hlt]) ⟨hit', st.2.extBut hs'.extBut hne⟩ fun b o hb e => hs'.extBut b o (fun h => hb (by simp [h])) e
  done := fun s Q E st hQ => wpAny_pyNext_tuple_end hh st.1 st.2 (by rw [Array.getElem?_eq_none]; omega) fun h' he' => hQ h' s.toks fun b o hb e => he' b o (fun h => hb (by simp [h])) e
  self := fun _ _ _ _ st hQ => wpAny_pyIter_tupleiter st.1 hQ
theorem unpack_star_last {t : Addr} {items : Array Value} {i : Nat} {Q : List Value → Shared → Prop} (hh : A.handled = none) (ht : IsTup s.heap t items) (hi : i ≤ items.size) (hz : items.size ≤ sizeLine)
    (hQ : ∀ (h' : Heap) (tk : Nat), (∀ b o, s.heap.get? b = some o → h'.get? b = some o) → Q (items.toList.take i ++ [.ref h'.objs.size]) { s with heap := h'.push { cls := .type "list", data := .seq (items.toList.drop i).toArray }, toks := tk }) :
    wpAny (model prog w) A (unpackItems (.ref t) (i + 1) (some i)) Q E s := by
  have hlt : t < s.heap.objs.size := by obtain ⟨o, ho, _⟩ := ht; exact Heap.lt_size ho
  have hne : t ≠ s.heap.objs.size := Nat.ne_of_lt hlt
  unfold unpackItems
  refine wpAny_bind ?_
  unfold notIterableAtAll
  refine wpAny_bind (wpAny_specialOf ht.typeIs slot_tuple_iter.lookup ?_)
  refine wpAny_pure ?_
  simp only [Bool.false_eq_true, if_false]
  refine wpAny_bind (wpAny_holding (iter_tuple ht ?_))
  refine wpAny_bind (wpAny_holding (draw_tuple hne i 0 _ _ ⟨_, Heap.get?_push_size _ rfl, rfl, rfl⟩ (ht.push _) (by omega) fun h₁ hit₁ hs₁ => ?_))
  have ht₁ : IsTup h₁ t items := (ht.push _).extBut hs₁.extBut hne
  have hl1 : (List.take i (List.drop 0 items.toList)).length = i := by
    rw [List.drop_zero, List.length_take, Array.length_toList]
    omega
  rw [if_neg (by rw [hl1]; omega)]
  have hsz : h₁.objs.size = s.heap.objs.size + 1 := by
    rw [hs₁.1]
    exact Heap.size_push ..
  have hit₂ : Heap.IsTupleIter h₁ s.heap.objs.size t (i + 0) := by
    obtain ⟨o, e, c, d⟩ := hit₁
    exact ⟨o, e, c, by rw [d]; simp [rawInt]⟩
  refine wpAny_bind (wpAny_holding (wpAny_collect_iter (T := "tuple_iterator") (.inr (.inr (.inr rfl))) (walk_from (A := A.in1) (prog := prog) (w := w) hh s.heap.objs.size t hne items i hi).toS
    (fun j s' st => ?_) ⟨hit₂, ht₁⟩ (fun b hb => ?_) (by simp) (fun s' acc hm hacc => ?_) (by omega)))
  · obtain ⟨o, e, c, d⟩ := st.1
    exact ⟨o, e, c⟩
  · show b < h₁.objs.size
    rw [hsz]
    simp only [List.mem_cons, List.not_mem_nil, or_false] at hb
    rcases hb with rfl | rfl
    · exact Nat.lt_succ_self _
    · exact Nat.lt_succ_of_lt hlt
  have hacc' : acc.toList = items.toList.drop i := by
    apply List.ext_getElem?
    intro j
    by_cases hj : j < acc.size
    · have h1 : acc[j]? = some acc[j] := Array.getElem?_eq_getElem hj
      have h2 := hacc.2 j _ h1
      rw [Array.getElem?_toList, h1, List.getElem?_drop, Array.getElem?_toList]
      exact h2.symm
    · have h1 := hacc.1
      rw [List.getElem?_eq_none (by rw [Array.length_toList]; omega), List.getElem?_eq_none (by rw [List.length_drop, Array.length_toList]; omega)]
  rw [hacc']
  have h0 : i + 1 - 1 - i = 0 := by omega
  simp only [h0, Nat.sub_zero]
  rw [if_neg (by omega)]
  rw [List.take_length, List.drop_length]
  obtain ⟨hp, gg, dd, tk, os⟩ := s'
  have e1 : gg = s.gens := hm.gens
  have e2 : dd = s.drawn := hm.drawn
  have e3 : os = s.os := hm.os
  subst e1 e2 e3
  have keep : ∀ b o, s.heap.get? b = some o → hp.get? b = some o := fun b o e => by
    have hb : b ≠ s.heap.objs.size := Nat.ne_of_lt (Heap.lt_size e)
    exact hm.heap b o (by simp only [List.mem_cons, List.not_mem_nil, or_false]; exact hb) (hs₁.extBut b o hb (Heap.get?_push_of_some _ e))
  refine wpAny_bind (wpAny_newObj_type ?_ (by show (items.toList.drop i).toArray.size ≤ sizeLine; rw [List.size_toArray, List.length_drop, Array.length_toList]; omega))
  rw [List.drop_zero] at *
  refine wpAny_pure ?_
  have := hQ hp tk keep
  simpa using this
end
/-- a, b, *c = a tuple of at least n items -/
def gTupS (K : PySem.W.Frag) (n : Nat) (t : TGs) : TG := fun v σ H Q => ∃ a xs, v = .ref a ∧ SqT K H a xs ∧ n ≤ xs.length ∧ ∀ D, H D = none → t (xs.take n ++ [.ref D]) σ (upd H D (.lst (xs.drop n))) Q
theorem pg_star {X : Cx} {e : Expr} {p : Pos} {t : TG} (h : PG X e t) : PGs X [.Starred e p] (gCons t gNil) := by
  refine ⟨fun pins s σ H vs us Q I r hw => ?_⟩
  obtain ⟨v, vr, e1, hw⟩ := hw
  subst e1
  cases r with
  | cons r rr =>
    show wpAny _ _ (assignInOrder [assign e X.env] _) _ _ _
    refine assignInOrder_cons (thn (h.run pins s σ H _ _ _ I r hw) fun _ s1 ⟨σ1, H1, I1, q1⟩ => ?_)
    obtain ⟨e2, q2⟩ := q1
    subst e2
    cases rr
    exact assignInOrder_nil ⟨σ1, H1, I1, q2⟩
theorem pg_tupS {X : Cx} {es : List Expr} {k : Nat} {pos : Pos} {t : TGs} (n : Nat) (hc : X.calm = true) (h : PGs X es t)
    (hn : (assignEach es X.env).length = n + 1 := by rfl) (hst : (assignEach es X.env).findIdx? (·.1) = some n := by rfl) : PG X (.Tuple es k pos) (gTupS X.K n t) := by
  refine ⟨fun pins s σ H v u Q I r hw => ?_⟩
  obtain ⟨a, xs, e1, hq, hl, hw⟩ := hw
  subst e1
  cases r
  obtain ⟨its, rv, ht, hz⟩ := I.tuple hq
  have hlen := rv.length
  rw [assign_Tuple]
  refine wpAny_bind (wpAny_standAt ?_)
  unfold unpack
  rw [hn, hst]
  refine wpAny_bind (wpAny_holding (unpack_star_last (I.ok.hd hc) ht (by rw [List.size_toArray]; omega) (by rw [List.size_toArray]; omega) fun h' tk hk => ?_))
  have I1 : Inv X pins σ H { s with heap := h', toks := tk } := I.kept hk
  have hf := I1.hok.fresh (Nat.le_refl _)
  have I2 := I1.laid (t' := tk) (a := h'.objs.size) (o := .lst (xs.drop n)) (h' := h'.push { cls := .type "list", data := .seq (its.drop n).toArray }) (fun b o e => Heap.get?_push_of_some _ e) (Nat.le_refl _) ⟨by rw [List.length_drop]; omega, its.drop n, 0, Vals.drop n rv, Heap.get?_push_size _ rfl⟩
  refine h.run pins _ σ _ _ _ Q I2 ?_ (hw _ hf)
  exact Vals.append (by simpa using Vals.take n rv) (.cons rfl .nil)
theorem pg_tupSK (K : PySem.W.Frag) {X : Cx} {es : List Expr} {k : Nat} {pos : Pos} {t : TGs} (n : Nat) (hc : X.calm = true) (h : PGs X es t)
    (hn : (assignEach es X.env).length = n + 1 := by rfl) (hst : (assignEach es X.env).findIdx? (·.1) = some n := by rfl) (hK : X.K = K := by rfl) : PG X (.Tuple es k pos) (gTupS K n t) := hK ▸ pg_tupS n hc h hn hst
theorem gw_tupS {K : PySem.W.Frag} {A : Amb} {S : List SV} {n : Nat} {u : TGs} {ds : List PyData} {k : KS} (hn : n ≤ ds.length) (h : GWs K u ((ds.take n ++ [PyData.list (ds.drop n)]).map SV.dat) S A k) : GW K (gTupS K n u) (.dat (.tuple ds)) S A k := fun R F σ H v Q a sd r q => by
  obtain ⟨p, xs, rfl, h1, h2⟩ := sr_tup r
  refine ⟨p, xs, rfl, same_t a.same h1, by rw [h2.length]; exact hn, fun D hD => ?_⟩
  obtain ⟨a2, e2⟩ := a.alloc (o := .lst (xs.drop n)) hD
  refine h R _ σ _ _ Q a2 (sd.mono e2) ?_ (q.mono e2)
  rw [List.map_append]
  exact papp (dats_srs ((h2.take n).mono e2)) (.cons (show SR K _ (.ref D) (.dat (.list (ds.drop n))) from .lst upd_same ((h2.drop n).mono e2)) .nil)
end DL

/-! The data layer: things of any kind: fine data, its repr, fresh dicts as data. -/
namespace DL
open PySem L2
mutual
/-- fine data: texts that are texts, numbers of a hundred figures -/
def fineD : PyData → Bool
  | .none | .bool _ => true
  | .int i => decide (i.natAbs < 10 ^ 100)
  | .str z => PyData.strOk z
  | .list xs | .tuple xs => fineA xs
  | .dict kvs => fineK kvs
def fineA : List PyData → Bool
  | [] => true
  | x :: xs => fineD x && fineA xs
def fineK : List (PyData × PyData) → Bool
  | [] => true
  | (k, v) :: r => fineD k && fineD v && fineK r
end
mutual
/-- how long its repr is at most -/
def wideD : PyData → Nat
  | .none => 4
  | .bool _ => 5
  | .int _ => 101
  | .str z => 10 * z.length + 2
  | .list xs | .tuple xs => wideA xs + 3
  | .dict kvs => wideK kvs + 3
def wideA : List PyData → Nat
  | [] => 0
  | x :: xs => wideD x + 2 + wideA xs
def wideK : List (PyData × PyData) → Nat
  | [] => 0
  | (k, v) :: r => wideD k + wideD v + 4 + wideK r
end
theorem strOk_lt {z : Str} (h : PyData.strOk z = true) : ∀ c ∈ z.cps.toList, c < 16 ^ 8 := fun c hc => by
  unfold PyData.strOk at h
  rw [Array.all_eq_true_iff_forall_mem] at h
  have := of_decide_eq_true (h c (Array.mem_toList_iff.mp hc))
  omega
mutual
theorem shown_fine : ∀ d : PyData, fineD d = true → d.shown.length ≤ wideD d ∧ d.showable = true
  | .none, _ => ⟨by decide +kernel, by simp [PyData.showable]⟩
  | .bool b, _ => ⟨by cases b <;> decide +kernel, by simp [PyData.showable]⟩
  | .int i, h => by
    have h1 : i.natAbs < 10 ^ 100 := by simpa [fineD] using h
    refine ⟨?_, ?_⟩
    · show ((toString i : String) : Str).length ≤ 101
      have h2 := int_text_length_le10 (a := i) (k := 100) (by decide) h1
      rw [ofString_length]
      exact h2
    · simp only [PyData.showable, decide_eq_true_eq]
      by_cases z : i.natAbs = 0
      · rw [z]; decide
      · have := (Nat.log2_lt z (k := 400)).mpr (Nat.lt_trans h1 (by decide))
        omega
  | .str z, h => by
    have h1 : PyData.strOk z = true := by simpa [fineD] using h
    exact ⟨PySem.StrLaws.reprText_len z (strOk_lt h1), by simp [PyData.showable]⟩
  | .list xs, h => by
    obtain ⟨h1, h2⟩ := shownA_fine xs (by simpa [fineD] using h)
    refine ⟨?_, by simpa [PyData.showable] using h2⟩
    have h4 := listText_le (PyData.shownAll xs)
    simp only [PyData.shown, wideD]
    omega
  | .tuple xs, h => by
    obtain ⟨h1, h2⟩ := shownA_fine xs (by simpa [fineD] using h)
    refine ⟨?_, by simpa [PyData.showable] using h2⟩
    have h4 := tupleText_le (PyData.shownAll xs)
    simp only [PyData.shown, wideD]
    omega
  | .dict kvs, h => by
    obtain ⟨h1, h2⟩ := shownK_fine kvs (by simpa [fineD] using h)
    refine ⟨?_, by simpa [PyData.showable] using h2⟩
    have h4 := dictText_len_le (PyData.shownKv kvs)
    simp only [PyData.shown, wideD]
    omega
theorem shownA_fine : ∀ xs : List PyData, fineA xs = true → piled (PyData.shownAll xs) ≤ wideA xs ∧ PyData.showableAll xs = true
  | [], _ => ⟨by simp [PyData.shownAll, piled, wideA], by simp [PyData.showableAll]⟩
  | x :: xs, h => by
    simp only [fineA, Bool.and_eq_true] at h
    obtain ⟨h1, h2⟩ := shown_fine x h.1
    obtain ⟨h4, h5⟩ := shownA_fine xs h.2
    refine ⟨?_, by simp [PyData.showableAll, h2, h5]⟩
    have h7 : piled (PyData.shownAll (x :: xs)) = x.shown.length + 2 + piled (PyData.shownAll xs) := by
      simp [PyData.shownAll, piled] <;> omega
    rw [h7]
    simp only [wideA]
    omega
theorem shownK_fine : ∀ kvs : List (PyData × PyData), fineK kvs = true → ((PyData.shownKv kvs).map (·.length)).sum + 2 * (PyData.shownKv kvs).length ≤ wideK kvs ∧ PyData.showableKv kvs = true
  | [], _ => ⟨by simp [PyData.shownKv, wideK], by simp [PyData.showableKv]⟩
  | (k, v) :: r, h => by
    simp only [fineK, Bool.and_eq_true] at h
    obtain ⟨h1, h2⟩ := shown_fine k h.1.1
    obtain ⟨h3, h4⟩ := shown_fine v h.1.2
    obtain ⟨h5, h6⟩ := shownK_fine r h.2
    refine ⟨?_, by simp [PyData.showableKv, h2, h4, h6]⟩
    have e : (k.shown ++ ": " ++ v.shown).length = k.shown.length + 2 + v.shown.length := by
      rw [Str.length_append, Str.length_append]
      rfl
    simp only [PyData.shownKv, List.map_cons, List.sum_cons, List.length_cons, wideK, e]
    omega
end
theorem fineA_mem : ∀ {xs : List PyData}, fineA xs = true ↔ ∀ x ∈ xs, fineD x = true
  | [] => by simp [fineA]
  | x :: xs => by simp [fineA, fineA_mem (xs := xs)]
theorem wideA_app : ∀ (xs ys : List PyData), wideA (xs ++ ys) = wideA xs + wideA ys
  | [], ys => by simp [wideA]
  | x :: xs, ys => by simp only [List.cons_append, wideA, wideA_app xs ys]; omega
theorem fineA_app (xs ys : List PyData) : fineA (xs ++ ys) = (fineA xs && fineA ys) := by
  induction xs with
  | nil => simp [fineA]
  | cons x xs ih => simp [fineA, ih, Bool.and_assoc]
section
variable {K : PySem.W.Frag} {A : Amb} {S : List SV} {k : KA}
/-- repr of anything fine -/
theorem cw_reprF {d : PyData} (hsys : d.hasDict = true → noLst d = true) (hs : fineD d = true) (hw : wideD d ≤ 1000000) (hd : d.depth ≤ 60) (h : k A (.dat (.str d.shown))) : CW K (rReprD K) [.dat d] A k := fun R F H vs Q a r q => by
  obtain ⟨v, rfl, r1⟩ := one_of r
  obtain ⟨h1, h2⟩ := shown_fine d hs
  exact ⟨v, d, rfl, Dt.mono a.same r1, h2, hsys, hd, Nat.le_trans h1 (Nat.le_trans hw (by decide)), q A _ _ F H h (Same.refl F) a (.str _)⟩
/-- {}: data -/
theorem wp_dnewD (h : k A (.dat (.dict []))) : Wp K A tDNewK S k := fun R F σ H Q a sd q p hp => by
  obtain ⟨a2, e2⟩ := a.alloc (o := .dK []) hp
  exact q A _ _ _ _ h e2 a2 (.dct (ds := []) upd_same rfl .nil)
end
end DL

/-! The data layer: a block that is opened as the one and closed as another. -/
namespace DL
open PySem L2
section
variable {K : PySem.W.Frag} {S : List SV} {E : DE} {tu : TS}
theorem go_open2 {ps : List Addr} {C : List Cell → Prop} (C' : List Cell → Prop) {l : List (Addr × Cell)} (h : ∀ cs, C cs → cs.length = ps.length → Go K ⟨Blk.nil, ps.zip cs ++ l⟩ tu S (E.close K ps C')) : Go K ⟨Blk.of K ps C, l⟩ tu S E := fun R F σ H D a sd o => by
  obtain ⟨cs, hc, hl, a2⟩ := a.open
  refine h cs hc hl R F σ H D a2 sd ⟨fun A1 S1 F1 σ1 H1 ⟨cs1, l1, e1, e2, e3, e4⟩ e5 a5 sd5 => ?_, fun A1 S1 F1 σ1 H1 ⟨cs1, l1, e1, e2, e3, e4⟩ e5 a5 sd5 => ?_, fun A1 S1 F1 σ1 H1 ⟨cs1, l1, e1, e2, e3, e4⟩ e5 a5 sd5 => ?_, fun A1 s1 v1 F1 H1 ⟨cs1, l1, e1, e2, e3, e4⟩ e5 a5 r5 => ?_⟩
  · subst e1
    exact o.nx _ _ _ _ _ e4 e5 (a5.close e3 e2) sd5
  · subst e1
    exact o.bk _ _ _ _ _ e4 e5 (a5.close e3 e2) sd5
  · subst e1
    exact o.ct _ _ _ _ _ e4 e5 (a5.close e3 e2) sd5
  · subst e1
    exact o.rt _ _ _ _ _ e4 e5 (a5.close e3 e2) r5
end
end DL

/-! The data layer: zip over any two of lists, tuples, texts. -/
namespace DL
open PySem L2 PySem.Spec PyProof.Rows
inductive ZS where
  | l (a : Addr)
  | t (a : Addr)
  | x (z : Str)
def ZS.v : ZS → V
  | .l a => .ref a
  | .t a => .ref a
  | .x z => .str z
def ZS.has (K : PySem.W.Frag) (H : Hp) : ZS → List V → Prop
  | .l a, xs => SqL K H a xs
  | .t a, xs => SqT K H a xs
  | .x z, xs => xs = z.cps.toList.map fun c => V.str ⟨#[c]⟩
def ZS.fp (it : Addr) : ZS → List Addr
  | .l a => [it, a]
  | .t a => [it, a]
  | .x _ => [it]
/-- its iterator at the i-th turn -/
def ZS.st (it : Addr) (i : Nat) (h : Heap) : ZS → Prop
  | .l a => h.IsListIter it a i
  | .t a => h.IsTupleIter it a i
  | .x z => ∃ t, h.IsStrIter it (strIterType z) z t i
section
variable {X : Cx} {pins : List (Addr × Obj)} {σ : L2.St} {H : Hp} {s : Shared}
theorem ZS.at_ {it : Addr} {i : Nat} {h h' : Heap} {z : ZS} (st : z.st it i h) (k : ∀ o, h.get? it = some o → h'.get? it = some o) : z.st it i h' := by
  cases z with
  | l a => exact Heap.IsListIter.at (st : h.IsListIter it a i) k
  | t a => exact Heap.IsTupleIter.at (st : h.IsTupleIter it a i) k
  | x z =>
    obtain ⟨t, o, ho, hc⟩ := st
    exact ⟨t, o, k o ho, hc⟩
theorem ZS.obj {it : Addr} {i : Nat} {h : Heap} {z : ZS} (st : z.st it i h) : ∃ o, h.get? it = some o ∧ ∀ v, o.data ≠ .cell v := by
  cases z with
  | l a =>
    obtain ⟨o, h1, _, h2⟩ := st
    exact ⟨o, h1, fun v q => by rw [h2] at q; cases q⟩
  | t a =>
    obtain ⟨o, h1, _, h2⟩ := st
    exact ⟨o, h1, fun v q => by rw [h2] at q; cases q⟩
  | x z =>
    obtain ⟨t, o, h1, _, h2⟩ := st
    exact ⟨o, h1, fun v q => by rw [h2] at q; cases q⟩
theorem vals_back : ∀ {xs : List V} {us : List Value} {j : Nat} {u : Value}, Vals xs us → us[j]? = some u → ∃ x, xs[j]? = some x ∧ RelV x u
  | _, _, _, _, .nil, e => by simp at e
  | _, _, 0, _, .cons r _, e => by simp at e; subst e; exact ⟨_, rfl, r⟩
  | _, _, j + 1, _, .cons _ t, e => by
    obtain ⟨x, h1, h2⟩ := vals_back (j := j) t (by simpa using e)
    exact ⟨x, by simpa using h1, h2⟩
theorem sign_get {z : Str} {i : Nat} {c : Nat} (h : z.cps[i]? = some c) : (z.cps.toList.map fun c => V.str ⟨#[c]⟩)[i]? = some (.str ⟨#[c]⟩) := by
  rw [List.getElem?_map, Array.getElem?_toList, h]
  rfl
/-- what it draws -/
theorem ZS.draws (I : Inv X pins σ H s) (hh : X.A.handled = none) {z : ZS} {xs : List V} (hz : z.has X.K H xs) {it : Addr} {i : Nat} (st : z.st it i s.heap) (sep : ∀ a, z = .l a ∨ z = .t a → a ≠ it) :
    ∃ (P : Nat → Value → Prop) (Q : Nat → Heap → Prop), Draws X.prog X.w X.A.in1 it (z.fp it) xs.length P Q ∧ Q i s.heap ∧ (∀ j u, P j u → ∃ x, xs[j]? = some x ∧ RelV x u) ∧ ∀ j h, Q j h → z.st it j h := by
  cases z with
  | l a =>
    obtain ⟨its, rv, p1, _⟩ := I.list (hz : SqL X.K H a xs)
    refine ⟨fun i v => its.toArray[i]? = some v, fun i h => h.IsListIter it a i ∧ h.IsList a its.toArray, by rw [show xs.length = its.toArray.size by rw [List.size_toArray]; exact rv.length]; exact Draws.list (A := X.A.in1) hh it a (sep a (.inl rfl)) its.toArray, ⟨st, p1.isList⟩, fun j u hu => ?_, fun j h q => q.1⟩
    have hu' : its[j]? = some u := by simpa using hu
    exact vals_back rv hu'
  | t a =>
    obtain ⟨its, rv, p1, _⟩ := I.tuple (hz : SqT X.K H a xs)
    refine ⟨fun i v => its.toArray[i]? = some v, fun i h => h.IsTupleIter it a i ∧ h.IsTuple a its.toArray, by rw [show xs.length = its.toArray.size by rw [List.size_toArray]; exact rv.length]; exact Draws.tuple (A := X.A.in1) hh it a (sep a (.inr rfl)) its.toArray, ⟨st, p1⟩, fun j u hu => ?_, fun j h q => q.1⟩
    have hu' : its[j]? = some u := by simpa using hu
    exact vals_back rv hu'
  | x z =>
    obtain ⟨t, st⟩ := st
    have hz : xs = z.cps.toList.map fun c => V.str ⟨#[c]⟩ := hz
    subst hz
    refine ⟨fun i v => ∃ c u, z.cps[i]? = some c ∧ v = .str ⟨#[c]⟩ u, fun i h => h.IsStrIter it (strIterType z) z t i, by rw [List.length_map, Array.length_toList]; exact Draws.text (A := X.A.in1) hh it z t, st, fun j u hu => ?_, fun j h q => ⟨t, q⟩⟩
    obtain ⟨c, tk, hc, rfl⟩ := hu
    exact ⟨_, sign_get hc, tk, rfl⟩
end
/-- the two, turn by turn, in new pairs -/
def ItzG (K : PySem.W.Frag) (z1 z2 : ZS) (n1 n2 : Nat) : It :=
  ⟨fun i H => ∃ (xs ys : List V) (x y : V), z1.has K H xs ∧ z2.has K H ys ∧ xs.length = n1 ∧ ys.length = n2 ∧ xs[i]? = some x ∧ ys[i]? = some y,
    fun i H v H' => ∃ T x y, v = .ref T ∧ H T = none ∧ H' = upd H T (.tup [x, y]) ∧ (∀ xs, z1.has K H xs → xs[i]? = some x) ∧ ∀ ys, z2.has K H ys → ys[i]? = some y,
    fun i H => ∃ xs ys : List V, z1.has K H xs ∧ z2.has K H ys ∧ xs.length = n1 ∧ ys.length = n2 ∧ (n1 ≤ i ∨ n2 ≤ i)⟩
theorem list_inj {X : Cx} {pins : List (Addr × Obj)} {σ : L2.St} {H : Hp} {s : Shared} (I : Inv X pins σ H s) {a : Addr} {xs ys : List V} (h1 : SqL X.K H a xs) (h2 : SqL X.K H a ys) : xs = ys := I.list_inj h1 h2
theorem ZS.inj {X : Cx} {pins : List (Addr × Obj)} {σ : L2.St} {H : Hp} {s : Shared} (I : Inv X pins σ H s) {z : ZS} {xs ys : List V} (h1 : z.has X.K H xs) (h2 : z.has X.K H ys) : xs = ys := by
  cases z with
  | l a => exact I.list_inj h1 h2
  | t a => exact I.tuple_inj h1 h2
  | x z => exact (h1 : xs = _).trans (h2 : ys = _).symm
theorem turn_zipG {P : Program} {w : World} {K : PySem.W.Frag} {elts : List Expr} {kk : Nat} {tpos : Pos} {z1 z2 : ZS} {n1 n2 : Nat} {z TI TO i1 i2 : Addr} (D : ZipSep2 z TI TO i1 i2 (z1.fp i1) (z2.fp i2)) (s1 : ∀ a, z1 = .l a ∨ z1 = .t a → a ≠ i1) (s2 : ∀ a, z2 = .l a ∨ z2 = .t a → a ≠ i2) :
    Turn P w K (.Tuple elts kk tpos) (ItzG K z1 z2 n1 n2) [z, TI, TO, i1, i2] z (fun i h => IsZip h z TI TO .none ∧ IsTupOf2 h TI (.ref i1) (.ref i2) ∧ (∃ x y, IsTupOf2 h TO x y) ∧ z1.st i1 i h ∧ z2.st i2 i h ∧ i ≤ n1 ∧ i ≤ n2) where
  mem := by simp
  obj := fun i h st c hc => by
    obtain ⟨hz, hTI, ⟨x, y, hTO⟩, h1, h2, _⟩ := st
    have e' : c = z ∨ c = TI ∨ c = TO ∨ c = i1 ∨ c = i2 := by simpa using hc
    rcases e' with q | q | q | q | q
    · rw [q]; exact ⟨_, hz, fun v q => nomatch q⟩
    · rw [q]; exact ⟨_, hTI, fun v q => nomatch q⟩
    · rw [q]; exact ⟨_, hTO, fun v q => nomatch q⟩
    · rw [q]; exact ZS.obj h1
    · rw [q]; exact ZS.obj h2
  keep := fun i h h' st k => by
    obtain ⟨hz, hTI, ⟨x, y, hTO⟩, h1, h2, h3⟩ := st
    exact ⟨k z (by simp) _ hz, k TI (by simp) _ hTI, ⟨x, y, k TO (by simp) _ hTO⟩, ZS.at_ h1 (fun o q => k i1 (by simp) o q), ZS.at_ h2 (fun o q => k i2 (by simp) o q), h3⟩
  item := by
    intro X hP hw hK hc i pins s σ H E I hf st hg
    subst hP hw hK
    obtain ⟨hz, hTI, ⟨x0, y0, hTO⟩, h1, h2, l1, l2⟩ := st
    obtain ⟨xs, ys, x, y, hqx, hqy, g1, g2, hx, hy⟩ := hg
    have hzl : z < s.heap.objs.size := Heap.lt_size hz
    obtain ⟨P1, Q1, D1, st1, r1, f1⟩ := ZS.draws I (I.ok.hd hc) hqx h1 s1
    obtain ⟨P2, Q2, D2, st2, r2, f2⟩ := ZS.draws I (I.ok.hd hc) hqy h2 s2
    have lt1 := (List.getElem?_eq_some_iff.mp hx).1
    have lt2 := (List.getElem?_eq_some_iff.mp hy).1
    refine wpAny_pyNext_zipD2_item D D1 D2 hz hTI hTO st1 st2 lt1 lt2 fun u u2 h' tk p1 p2 z' TO' h1' h2' hT hsz hk => ?_
    obtain ⟨x', ex, ru⟩ := r1 _ _ p1
    obtain ⟨y', ey, ru2⟩ := r2 _ _ p2
    rw [hx] at ex
    rw [hy] at ey
    cases ex
    cases ey
    refine ⟨_, rfl, wpAny_letOwnedTupleGo_zip (s := { s with heap := h', toks := tk }) z' fun h'' z'' sb => ?_⟩
    have hT2 : h''.get? s.heap.objs.size = some { cls := .type "tuple", data := .seq #[u, u2] } := (sb.2 _ (Nat.ne_of_gt hzl)).trans hT
    have new : ObjOk X.prog X.w (upd H s.heap.objs.size (.tup [x, y])) h'' s.heap.objs.size (.tup [x, y]) :=
      ⟨by show 2 ≤ sizeLine; decide, [u, u2], .cons ru (.cons ru2 .nil), ⟨_, hT2, rfl, _, rfl⟩⟩
    have I1 : Inv X pins σ (upd H s.heap.objs.size (.tup [x, y])) { s with heap := h'', toks := tk } :=
      I.turnedNew (t' := tk) (ch := [z, TI, TO, i1, i2]) (fun c o hb q => (sb.2 c (fun q' => hb (by simp [q']))).trans (hk c o (fun q' => hb (by simp [q'])) (fun q' => hb (by simp [q'])) (fun q' => hb (by simp [q'])) (fun q' => hb (by simp [q'])) q)) hf (Nat.le_refl _) new
    refine ⟨.ref s.heap.objs.size, _, I1, rfl, ⟨_, x, y, rfl, I.hok.fresh (Nat.le_refl _), rfl, fun l hl => by rw [ZS.inj I hl hqx]; exact hx, fun l hl => by rw [ZS.inj I hl hqy]; exact hy⟩, ⟨z'', ?_, ⟨u, u2, ?_⟩, ?_, ?_, by omega, by omega⟩, fun c hcm => ?_⟩
    · exact (sb.2 _ D.TIz).trans (hk _ _ D.TIz D.TITO D.TIi1 D.TIi2 hTI)
    · exact (sb.2 _ D.TOz).trans TO'
    · exact ZS.at_ (f1 _ _ h1') fun o q => (sb.2 _ D.zi1.symm).trans q
    · exact ZS.at_ (f2 _ _ h2') fun o q => (sb.2 _ D.zi2.symm).trans q
    · have hlt : c < s.heap.objs.size := by
        have e' : c = z ∨ c = TI ∨ c = TO ∨ c = i1 ∨ c = i2 := by simpa using hcm
        rcases e' with q | q | q | q | q
        · rw [q]; exact hzl
        · rw [q]; exact Heap.lt_size hTI
        · rw [q]; exact Heap.lt_size hTO
        · rw [q]; obtain ⟨_, e1, _⟩ := ZS.obj h1; exact Heap.lt_size e1
        · rw [q]; obtain ⟨_, e2, _⟩ := ZS.obj h2; exact Heap.lt_size e2
      rw [upd_ne (Nat.ne_of_lt hlt)]
      exact (hf c hcm).1
  done := by
    intro X hP hw hK hc i pins s σ H E I hf st hg
    subst hP hw hK
    obtain ⟨hz, hTI, ⟨x0, y0, hTO⟩, h1, h2, l1, l2⟩ := st
    obtain ⟨xs, ys, hqx, hqy, g1, g2, hend⟩ := hg
    obtain ⟨P1, Q1, D1, st1, r1, f1⟩ := ZS.draws I (I.ok.hd hc) hqx h1 s1
    obtain ⟨P2, Q2, D2, st2, r2, f2⟩ := ZS.draws I (I.ok.hd hc) hqy h2 s2
    exact wpAny_pyNext_zipD2_end D D1 D2 hz hTI hTO st1 st2 (by rw [g1]; exact l1) (by rw [g2]; exact l2) (hend.imp (fun q => by rw [g1]; exact Nat.le_antisymm l1 q) fun q => by rw [g2]; exact Nat.le_antisymm l2 q) fun h' tk hk => ⟨rfl, I.turnedL (t' := tk) (ch := [z, TI, TO, i1, i2]) (fun c o hb q =>
      hk c o (fun q' => hb (by simp [q'])) (fun q' => hb (by simp [q'])) (fun q' => hb (by simp [q'])) (fun q' => hb (by simp [q'])) q) hf⟩
  self := fun A i s Q E st h => wpAny_pyIter_zip st.1 h
def iZipG (K : PySem.W.Frag) (ta : TA) : TI := fun σ H R => ta σ H fun vs H1 => ∃ (z1 z2 : ZS) (xs ys : List V), vs = [z1.v, z2.v] ∧ z1.has K H1 xs ∧ z2.has K H1 ys ∧ R (ItzG K z1 z2 xs.length ys.length) H1
theorem ZS.begin {X : Cx} {pins : List (Addr × Obj)} {σ : L2.St} {H : Hp} {s : Shared} (I : Inv X pins σ H s) {z : ZS} {xs : List V} (hz : z.has X.K H xs) {u : Value} (r : RelV z.v u) :
    ∃ (o : Obj) (Hh : Heap → Prop), Begins u o Hh ∧ Hh s.heap ∧ (∀ (it : Addr) (h : Heap), h.get? it = some o → z.st it 0 h) ∧ (∀ b ∈ (z.fp 0).drop 1, b < s.heap.objs.size) ∧ ∀ a, z = .l a ∨ z = .t a → a < s.heap.objs.size := by
  cases z with
  | l a =>
    obtain ⟨its, rv, p1, _⟩ := I.list (hz : SqL X.K H a xs)
    cases (show u = Value.ref a from r)
    refine ⟨_, _, begins_list a its.toArray, p1.isList, fun it h e => ⟨_, e, rfl, rfl⟩, fun b hb => ?_, fun b hb => ?_⟩
    · have : b = a := by simpa [ZS.fp] using hb
      rw [this]; exact p1.lt
    · have : a = b := by rcases hb with hb | hb <;> cases hb; rfl
      rw [← this]; exact p1.lt
  | t a =>
    obtain ⟨its, rv, p1, _⟩ := I.tuple (hz : SqT X.K H a xs)
    obtain ⟨o1, ho1, _⟩ := id p1
    cases (show u = Value.ref a from r)
    refine ⟨_, _, begins_tuple a its.toArray, p1, fun it h e => ⟨_, e, rfl, rfl⟩, fun b hb => ?_, fun b hb => ?_⟩
    · have : b = a := by simpa [ZS.fp] using hb
      rw [this]; exact Heap.lt_size ho1
    · have : a = b := by rcases hb with hb | hb <;> cases hb; rfl
      rw [← this]; exact Heap.lt_size ho1
  | x z =>
    obtain ⟨t, rfl⟩ := r
    exact ⟨_, _, begins_text z t, trivial, fun it h e => ⟨t, _, e, rfl, rfl⟩, fun b hb => by simp [ZS.fp] at hb, fun b hb => by rcases hb with hb | hb <;> cases hb⟩
theorem ZS.fp_cons (it : Addr) (z : ZS) : z.fp it = it :: (z.fp 0).drop 1 := by cases z <;> rfl
theorem pi_zipG {X : Cx} {e e2 : Expr} {ta : TA} {p pos tpos : Pos} {elts : List Expr} {kk : Nat} (hg : Gl X "zip") (hm : X.mg "zip" = none) (ha : PA X [e, e2] ta)
    (hs : starEach [e, e2] X.env = (false, eval e X.env) :: starEach [e2] X.env := by rfl) (hpl : (backTo pos (starEach [e2] X.env)).any (·.1) = false := by rfl) :
    PI X (.Tuple elts kk tpos) (.Call (.Name "zip" p) [e, e2] [] pos) (iZipG X.K ta) := by
  refine ⟨fun pins s σ H R I h => ?_⟩
  refine Call_ (ld_blt I hg hm PyProof.Rows.boot_zip (PyProof.Rows.callWith_type1 (thn (ha.run pos pins s σ H _ I h) fun us s1 ⟨vs, H1, I1, r1, q1⟩ => ?_) hs hpl))
  obtain ⟨z1, z2, xs, ys, ex, hx, hy, q⟩ := q1
  subst ex
  cases r1 with
  | cons r rr =>
    cases rr with
    | cons r' rr =>
      cases rr
      obtain ⟨o1, G1, B1, g1, t1, b1, c1⟩ := ZS.begin I1 hx r
      obtain ⟨o2, G2, B2, g2, t2, b2, c2⟩ := ZS.begin I1 hy r'
      have fresh5 : ∀ c, c ∈ [s1.heap.objs.size + 4, s1.heap.objs.size + 2, s1.heap.objs.size + 3, s1.heap.objs.size, s1.heap.objs.size + 1] → FpOk X pins H1 c := fun c hcm => by
        have e' : c = s1.heap.objs.size + 4 ∨ c = s1.heap.objs.size + 2 ∨ c = s1.heap.objs.size + 3 ∨ c = s1.heap.objs.size ∨ c = s1.heap.objs.size + 1 := by simpa using hcm
        have hle : s1.heap.objs.size ≤ c := by
          rcases e' with z | z | z | z | z
          · rw [z]; exact Nat.le_add_right _ _
          · rw [z]; exact Nat.le_add_right _ _
          · rw [z]; exact Nat.le_add_right _ _
          · rw [z]; exact Nat.le_refl _
          · rw [z]; exact Nat.le_add_right _ _
        exact I1.fpOk hle (I1.hok.fresh hle)
      refine zip_begins2 B1 B2 g1 g2 fun h' hz hTI hTO h1 h2 hsz hk => wpAny_pyIter_zip hz ?_
      have I2 : Inv X pins σ H1 { s1 with heap := h' } := I1.kept (t' := s1.toks) hk
      have D := zip_sep2 (N := s1.heap.objs.size) b1 b2
      rw [← ZS.fp_cons, ← ZS.fp_cons] at D
      exact ⟨s1.heap.objs.size + 4, [s1.heap.objs.size + 4, s1.heap.objs.size + 2, s1.heap.objs.size + 3, s1.heap.objs.size, s1.heap.objs.size + 1], _, _, H1, rfl, I2, turn_zipG D (fun a ha e => by have h0 := c1 a ha; rw [e] at h0; exact Nat.lt_irrefl _ h0) (fun a ha e => by
          have h0 := c2 a ha
          rw [e] at h0
          exact Nat.not_succ_lt_self h0), ⟨hz, hTI, ⟨_, _, hTO⟩, t1 _ _ h1, t2 _ _ h2, Nat.zero_le _, Nat.zero_le _⟩, fresh5, q⟩
theorem pi_zipGK (K : PySem.W.Frag) {X : Cx} {e e2 : Expr} {ta : TA} {p pos tpos : Pos} {elts : List Expr} {kk : Nat} (hg : Gl X "zip") (hm : X.mg "zip" = none) (ha : PA X [e, e2] ta)
    (hs : starEach [e, e2] X.env = (false, eval e X.env) :: starEach [e2] X.env := by rfl) (hpl : (backTo pos (starEach [e2] X.env)).any (·.1) = false := by rfl) (h : X.K = K := by rfl) :
    PI X (.Tuple elts kk tpos) (.Call (.Name "zip" p) [e, e2] [] pos) (iZipG K ta) := h ▸ pi_zipG hg hm ha hs hpl
/-- what a list, a tuple, a text yields -/
def seqD : PyData → Option (List PyData)
  | .list ds => some ds
  | .tuple ds => some ds
  | .str z => some (z.cps.toList.map sig1)
  | _ => none
theorem signs_dt {K : PySem.W.Frag} (F : Hp) : ∀ cs : List Nat, DtAll K F (cs.map fun c => V.str ⟨#[c]⟩) (cs.map sig1)
  | [] => .nil
  | c :: cs => .cons (.str _) (signs_dt F cs)
theorem seqD_zs {K : PySem.W.Frag} {F : Hp} {v : V} {d : PyData} {ds : List PyData} (h : Dt K F v d) (e : seqD d = some ds) : ∃ (z : ZS) (xs : List V), v = z.v ∧ (∀ H, Same F H → z.has K H xs) ∧ DtAll K F xs ds := by
  cases h with
  | lst h1 h2 => cases e; exact ⟨.l _, _, rfl, fun H s => .inl (.inl (s _ _ h1)), h2⟩
  | tup h1 h2 => cases e; exact ⟨.t _, _, rfl, fun H s => same_t s h1, h2⟩
  | str z => cases e; exact ⟨.x z, _, rfl, fun H s => rfl, signs_dt F _⟩
  | _ => cases e
section
variable {K : PySem.W.Frag} {A : Amb} {S : List SV} {ta : TA} {k : KS}
theorem iw_zipG (h : WpA K A ta S fun A1 ss => ∃ d e ds es, ss = [.dat d, .dat e] ∧ seqD d = some ds ∧ seqD e = some es ∧ k A1 ((zipD ds es).map .dat)) : IW K A (iZipG K ta) S k := fun R F σ H Q a sd q =>
  h R F σ H _ a sd fun A1 ss vs F1 H1 ⟨d, e0, ds, es, hs, hd, he, hk⟩ e1 a1 r1 => by
    subst hs
    obtain ⟨v, w, rfl, r2, r3⟩ := two_of r1
    obtain ⟨z1, xs, rfl, f1, h2⟩ := seqD_zs r2 hd
    obtain ⟨z2, ys, rfl, f2, h4⟩ := seqD_zs r3 he
    refine ⟨z1, z2, xs, ys, rfl, f1 _ a1.same, f2 _ a1.same, q A1 _ F1 H1 _ hk e1 a1 fun A' F' H' i e at' => ?_⟩
    have hH := f1 _ (e.trans at'.same)
    have hH2 := f2 _ (e.trans at'.same)
    refine ⟨fun hi => ⟨xs, ys, hH, hH2, rfl, rfl, ?_⟩, fun s hs => ?_⟩
    · rw [List.length_map, zipD_length] at hi
      rw [h2.length, h4.length]
      omega
    · obtain ⟨d, e', hd, he, rfl⟩ := zipD_get hs
      obtain ⟨x, hx, hdx⟩ := h2.getD hd
      obtain ⟨y, hy, hdy⟩ := h4.getD he
      refine ⟨⟨xs, ys, x, y, hH, hH2, rfl, rfl, hx, hy⟩, fun z H'' w => ?_⟩
      obtain ⟨T, x', y', rfl, hT, rfl, w1, w2⟩ := w
      have q1 := w1 xs hH
      have q2 := w2 ys hH2
      rw [hx] at q1
      rw [hy] at q2
      cases q1
      cases q2
      exact pair2_new hT at' (hdx.mono e) (hdy.mono e)
end
/-! ### written dicts -/
/-- a dict of the written part with text keys: what stands at them, as data -/
def EntsOf (K : PySem.W.Frag) : List DictEntry → List (Str × PyData) → Prop
  | [], [] => True
  | e :: es, p :: ps => (∃ t, e.key = .str p.1 t) ∧ (∃ v, RelV v e.val ∧ Dt K (fun _ => none) v p.2) ∧ EntsOf K es ps
  | _, _ => False
def KTab (K : PySem.W.Frag) (w : World) (a : Addr) (L : List (Str × PyData)) : Prop :=
  ∃ es n, K.lookup a = some ⟨.type "dict", none, .dict es n, #[]⟩ ∧ PySem.W.KeysLit w.params es.toList ∧ (a == sysModules) = false ∧ EntsOf K es.toList L
theorem ents_find {K : PySem.W.Frag} : ∀ {es : List DictEntry} {L : List (Str × PyData)} {x : Str}, EntsOf K es L →
    (∀ d, L.lookup x = some d → ∃ v u, (es.find? fun e => Value.isStrOf x e.key).map (·.val) = some u ∧ RelV v u ∧ Dt K (fun _ => none) v d) ∧ (L.lookup x = none → (es.find? fun e => Value.isStrOf x e.key).map (·.val) = none)
  | [], [], x, _ => ⟨fun d h => by simp at h, fun _ => rfl⟩
  | e :: es, p :: ps, x, ⟨⟨t, hk⟩, ⟨v, r, hd⟩, h⟩ => by
    obtain ⟨i1, i2⟩ := ents_find (x := x) h
    rw [List.find?_cons, List.lookup_cons, hk]
    by_cases hx : x = p.1
    · subst hx
      have e1 : Value.isStrOf p.1 (.str p.1 t) = true := by simp [Value.isStrOf]
      rw [e1]
      simp only [beq_self_eq_true]
      exact ⟨fun d h => by cases h; exact ⟨v, e.val, rfl, r, hd⟩, fun h => by cases h⟩
    · have e1 : Value.isStrOf x (.str p.1 t) = false := by
        cases z : Value.isStrOf x (.str p.1 t) with
        | false => rfl
        | true =>
          obtain ⟨t', e'⟩ := Value.isStrOf_shape z
          injection e' with e2 _
          exact absurd e2.symm hx
      have e2 : (x == p.1) = false := beq_eq_false_iff_ne.mpr hx
      rw [e1, e2]
      exact ⟨i1, i2⟩
def tKGet (K : PySem.W.Frag) (w : World) (td ty tx : TE) : TE := fun σ H Q => td σ H fun x H1 => ∃ (a : Addr) (L : List (Str × PyData)), x = .ref a ∧ KTab K w a L ∧ ty σ H1 fun y H2 => tx σ H2 fun z H3 => ∃ (k : Str), y = .str k ∧
  (∀ d, L.lookup k = some d → ∀ v, Dt K (fun _ => none) v d → Q v H3) ∧ (L.lookup k = none → Q z H3)
theorem pe_kget2 {X : Cx} {o e f : Expr} {apos cpos : Pos} {td ty tx : TE} (ho : PE X o td) (he : PE X e ty) (hf : PE X f tx) (m : M2 X o "get" apos e f cpos) : PE X (.Call (.Attribute o "get" apos) [e, f] [] cpos) (tKGet X.K X.w td ty tx) := by
  refine ⟨fun pins s σ H Q I h => ?_⟩
  refine wpAny_Call_method m.base m.few m.line PySem.F.plainAttrs_dict PySem.F.slot_dict_get PySem.F.type_dict_get (thn (ho.run pins s σ H _ I h) fun u s1 ⟨x, H1, I1, rx, a, L, ex, ⟨es, n, hl, hk, low, ents⟩, q1⟩ => ?_)
  subst ex
  obtain rfl : u = Value.ref a := rx
  have hm := PySem.W.mapOf_K (prog := X.prog) (w := X.w) I1.kIn hl hk
  refine ⟨hm.typeIs, fun b e => ?_, ?_⟩
  · cases e
    exact ⟨_, I1.kIn _ _ hl, rfl⟩
  rw [m.trees]
  refine Calls.callWith_builtin rfl (Calls.evalArgs_plain (Calls.spliced_cons (thn (he.run pins s1 σ H1 _ I1 q1) fun iv s2 ⟨y, H2, I2, ry, q2⟩ =>
    Calls.spliced_cons (thn (hf.run pins s2 σ H2 _ I2 q2) fun fv s3 ⟨z, H3, I3, rz, k, ey, f1, f2⟩ => Calls.spliced_nil ?_))))
  subst ey
  obtain ⟨t, rfl⟩ := (show ∃ t, iv = Value.str k t from ry)
  have hm3 := PySem.W.mapOf_K (prog := X.prog) (w := X.w) I3.kIn hl hk
  refine call_meetsIn PySem.F.slot_dict_get hm3.typeIs PySem.F.entry_dict_get (PySem.F.args_dict_get_3 _ _ _) (meets_dict_get_default (strKind X.prog X.w) a (strKind_is X.prog X.w k t) low fv) ⟨_, hm3, ?_⟩
  obtain ⟨i1, i2⟩ := ents_find (x := k) ents
  have ef : findBy Value.isStrOf es k = (es.toList.find? fun e => Value.isStrOf k e.key).map (·.val) := by
    unfold findBy
    rw [Array.find?_toList]
  cases hlk : L.lookup k with
  | none =>
    have e0 : findBy Value.isStrOf es k = none := ef.trans (i2 hlk)
    rw [e0]
    exact ⟨_, H3, I3.tok _, rz, f2 hlk⟩
  | some d =>
    obtain ⟨v, u, e1, r, hd⟩ := i1 d hlk
    have e0 : findBy Value.isStrOf es k = some u := ef.trans e1
    rw [e0]
    exact ⟨v, H3, I3.tok _, r, f1 d hlk v hd⟩
theorem pe_kget2K (K : PySem.W.Frag) (w : World) {X : Cx} {o e f : Expr} {apos cpos : Pos} {td ty tx : TE} (ho : PE X o td) (he : PE X e ty) (hf : PE X f tx) (m : M2 X o "get" apos e f cpos) (hK : X.K = K := by rfl) (hw : X.w = w := by rfl) : PE X (.Call (.Attribute o "get" apos) [e, f] [] cpos) (tKGet K w td ty tx) := by
  subst hK
  subst hw
  exact pe_kget2 ho he hf m
section
variable {K : PySem.W.Frag} {w : World} {A : Amb} {S : List SV} {k : KA} {td ty tx : TE} {a : Addr} {L : List (Str × PyData)}
/-- d.get(x, e) of a written dict -/
theorem wp_kget (ht : KTab K w a L) (h : Wp K A ty S fun A1 s1 => Wp K A1 tx S fun A2 s2 => ∃ x : Str, s1 = .dat (.str x) ∧ (∀ d, L.lookup x = some d → k A2 (.dat d)) ∧ (L.lookup x = none → k A2 s2)) : Wp K A (tKGet K w (tC (.ref a)) ty tx) S k := fun R F σ H Q at' sd q => by
  refine ⟨a, L, rfl, ht, h R F σ H _ at' sd fun A1 s1 v F1 H1 h1 e1 a1 r1 => h1 R F1 σ H1 _ a1 (sd.mono e1) fun A2 s2 u F2 H2 ⟨x, hx, h2, h3⟩ e2 a2 r2 => ?_⟩
  subst hx
  obtain rfl := sr_str r1
  exact ⟨x, rfl, fun d hd v hv => q _ _ _ _ _ (h2 d hd) (e1.trans e2) a2 (hv.mono fun _ _ z => by cases z), fun hn => q _ _ _ _ _ (h3 hn) (e1.trans e2) a2 r2⟩
/-! ### order -/
def rLtI (K : PySem.W.Frag) : R2 := rLtT K
theorem op_ltK (K : PySem.W.Frag) {X : Cx} (hu : X.A.units + 65 < cLine) (h : X.K = K := by rfl) : OpR X (compareOp .Lt) (rLtI K) := h ▸ op_ltT (by omega)
theorem op_leK (K : PySem.W.Frag) {X : Cx} (hu : X.A.units + 65 < cLine) (h : X.K = K := by rfl) : OpR X (compareOp .LtE) (rLeT K) := h ▸ op_leT (by omega)
theorem dt_ints {F : Hp} : ∀ {xs : List V} {ns : List Int}, DtAll K F xs (ns.map PyData.int) → xs = ns.map V.int
  | _, [], h => by
    have h' : DtAll K F _ [] := h
    cases h'
    rfl
  | _, n :: ns, h => by
    have h' : DtAll K F _ (.int n :: ns.map PyData.int) := h
    cases h' with
    | cons r t =>
      cases r
      rw [dt_ints t]
      rfl
/-- pairs of ints by their order -/
def ltP (a b : Int × Int) : Bool := if a.1 = b.1 then decide (a.2 < b.2) else decide (a.1 < b.1)
abbrev pairD (p : Int × Int) : PyData := .tuple [.int p.1, .int p.2]
theorem rw_ltT {p q : Int × Int} (h : k A (.dat (.bool (ltP p q)))) : RW K (rLtI K) (.dat (pairD p)) (.dat (pairD q)) A k := fun R F H v w Q a r1 r2 qq => by
  obtain ⟨x, xs, rfl, h1, h2⟩ := sr_tup r1
  obtain ⟨y, ys, rfl, h3, h4⟩ := sr_tup r2
  have e1 := dt_ints (ns := [p.1, p.2]) h2
  have e2 := dt_ints (ns := [q.1, q.2]) h4
  subst e1
  subst e2
  refine ⟨x, y, [p.1, p.2], [q.1, q.2], rfl, rfl, same_t a.same h1, same_t a.same h3, ?_⟩
  have e : HT.lexLt [p.1, p.2] [q.1, q.2] = ltP p q := by
    simp only [HT.lexLt, ltP]
    by_cases h : p.1 = q.1
    · rw [if_pos h, if_pos h]
      by_cases h2 : p.2 = q.2
      · rw [if_pos h2, h2]; simp
      · rw [if_neg h2]
    · rw [if_neg h, if_neg h]
  rw [e]
  exact qq _ _ _ _ _ h (Same.refl _) a (.bl _)
theorem rw_leT {p q : Int × Int} (h : k A (.dat (.bool (!ltP q p)))) : RW K (rLeT K) (.dat (pairD p)) (.dat (pairD q)) A k := fun R F H v w Q a r1 r2 qq => by
  obtain ⟨x, xs, rfl, h1, h2⟩ := sr_tup r1
  obtain ⟨y, ys, rfl, h3, h4⟩ := sr_tup r2
  have e1 := dt_ints (ns := [p.1, p.2]) h2
  have e2 := dt_ints (ns := [q.1, q.2]) h4
  subst e1
  subst e2
  refine ⟨x, y, [p.1, p.2], [q.1, q.2], rfl, rfl, same_t a.same h1, same_t a.same h3, ?_⟩
  have e : Ob.lexAt (fun j => decide (([p.1, p.2] : List Int).getD j 0 = ([q.1, q.2] : List Int).getD j 0)) (fun j => decide (([p.1, p.2] : List Int).getD j 0 ≤ ([q.1, q.2] : List Int).getD j 0)) (decide (([p.1, p.2] : List Int).length ≤ ([q.1, q.2] : List Int).length)) 0 (min ([p.1, p.2] : List Int).length ([q.1, q.2] : List Int).length) = !ltP q p := by
    show (if decide (p.1 = q.1) = true then (if decide (p.2 = q.2) = true then decide (2 ≤ 2) else decide (p.2 ≤ q.2)) else decide (p.1 ≤ q.1)) = !ltP q p
    simp only [ltP, decide_eq_true_eq]
    by_cases h : p.1 = q.1
    · rw [if_pos h, if_pos h.symm]
      by_cases h2 : p.2 = q.2
      · rw [if_pos h2, h2]; simp
      · rw [if_neg h2, ← decide_not]
        exact decide_eq_decide.mpr (by omega)
    · rw [if_neg h, if_neg (fun z => h z.symm), ← decide_not]
      exact decide_eq_decide.mpr (by omega)
  rw [e]
  exact qq _ _ _ _ _ h (Same.refl _) a (.bl _)
end
end DL

/-! The data layer: sorted(set(pairs)), texts by their order, lists repeated, joins of tuples. -/
namespace DL
open PySem L2
theorem cr_setOfTK (K : PySem.W.Frag) (P : Program) (w : World) {X : Cx} (hc : X.calm = true) (hu : X.A.units + 65 < cLine) (h : X.K = K := by rfl) (h2 : X.prog = P := by rfl) (h3 : X.w = w := by rfl) : CallR X (.type "set") (rSetOfT K P w) := by
  subst h h2 h3
  exact cr_setOfT hc (by omega)
theorem cr_sortedTK (K : PySem.W.Frag) (P : Program) (w : World) {X : Cx} (hc : X.calm = true) (h : X.K = K := by rfl) (h2 : X.prog = P := by rfl) (h3 : X.w = w := by rfl) : CallR X (.builtin "sorted") (rSortedT K P w) := by
  subst h h2 h3
  exact cr_sortedT hc
section
variable {K : PySem.W.Frag} {P : Program} {w : World} {A : Amb} {S : List SV} {k : KA} {te to ta : TE}
theorem pairs_at {F : Hp} : ∀ {xs : List V} {cs : List (Int × Int)}, DtAll K F xs (cs.map pairD) → ∃ ks : List (Addr × List Int), xs = ks.map (fun p => V.ref p.1) ∧ ks.map (·.2) = cs.map (fun c => [c.1, c.2]) ∧ ∀ p ∈ ks, SqT K F p.1 (p.2.map V.int)
  | _, [], h => by
    have h' : DtAll K F _ [] := h
    cases h'
    exact ⟨[], rfl, rfl, by simp⟩
  | _, c :: cs, h => by
    have h' : DtAll K F _ (pairD c :: cs.map pairD) := h
    cases h' with
    | cons r t =>
      obtain ⟨ks, e1, e2, e3⟩ := pairs_at t
      have r' : Dt K F _ (.tuple [.int c.1, .int c.2]) := r
      cases r' with
      | tup h1 h2 =>
        have e := dt_ints (ns := [c.1, c.2]) h2
        subst e
        refine ⟨(_, [c.1, c.2]) :: ks, by rw [List.map_cons, ← e1], by rw [List.map_cons, List.map_cons, e2], fun p hp => ?_⟩
        rcases List.mem_cons.mp hp with rfl | hp
        · exact h1
        · exact e3 p hp
theorem pairs_dtF {F : Hp} : ∀ {L : List (Addr × List Int)} {cs : List (Int × Int)}, (∀ p ∈ L, SqT K F p.1 (p.2.map V.int)) → L.map (·.2) = cs.map (fun c => [c.1, c.2]) → DtAll K F (L.map fun p => V.ref p.1) (cs.map pairD)
  | [], [], _, _ => .nil
  | [], _ :: _, _, e => by simp at e
  | _ :: _, [], _, e => by simp at e
  | p :: L, c :: cs, h, e => by
    simp only [List.map_cons, List.cons.injEq] at e
    refine .cons (.tup (h p List.mem_cons_self) ?_) (pairs_dtF (fun q hq => h q (List.mem_cons_of_mem _ hq)) e.2)
    rw [e.1]
    exact .cons (.int _) (.cons (.int _) .nil)
/-- sorted(set(xs)), xs pairs of small numbers: rising, as data -/
theorem wp_sortSet (h : Wp K A te S fun A1 s => ∃ cs : List (Int × Int), s = .dat (.list (cs.map pairD)) ∧ cs.length < 64 ∧ (∀ c ∈ cs, (0 ≤ c.1 ∧ c.1 < 64) ∧ 0 ≤ c.2 ∧ c.2 < 64) ∧ ∀ ms : List (Int × Int), (∀ c, c ∈ ms ↔ c ∈ cs) → ms.Pairwise (fun a b => ltP a b = true) → k A1 (.dat (.list (ms.map pairD)))) :
    Wp K A (tCB (rSortedT K P w) (tCons (tCB (rSetOfT K P w) (tCons te tNil)) tNil)) S k := fun R F σ H Q a sd q => by
  refine h R F σ H _ a sd fun A1 s v F1 H1 ⟨cs, hs, hl, hb, hk⟩ e1 a1 r1 => ?_
  subst hs
  obtain ⟨l, xs, rfl, h1, h2⟩ := sr_lst r1
  obtain ⟨ks, rfl, ek, hks⟩ := pairs_at h2
  have hlen : ks.length = cs.length := by
    have := congrArg List.length ek
    simpa using this
  refine ⟨l, ks, rfl, .inl (.inl (a1.same _ _ h1)), fun p hp => same_t a1.same (hks p hp), by omega, fun st L hst hL1 hL2 => ?_⟩
  obtain ⟨a2, e2⟩ := a1.alloc (o := SetTO P w st L) hst
  have hof : ∀ p ∈ ks, ∃ c ∈ cs, p.2 = [c.1, c.2] := fun p hp => by
    have : p.2 ∈ ks.map (·.2) := List.mem_map.mpr ⟨p, hp, rfl⟩
    rw [ek] at this
    obtain ⟨c, hc, e⟩ := List.mem_map.mp this
    exact ⟨c, hc, e.symm⟩
  refine ⟨st, L, 2, 64, rfl, upd_same, fun p hp => same_t (a2.same) (same_t e2 (hks p (hL1 p hp))), by decide, fun p hp => ?_, fun L' p hpm hnd hlt hpw hp => ?_⟩
  · obtain ⟨c, hc, e⟩ := hof p (hL1 p hp)
    obtain ⟨⟨b1, b2⟩, b3, b4⟩ := hb c hc
    rw [e]
    refine ⟨rfl, ?_⟩
    intro n hn
    simp only [List.mem_cons, List.not_mem_nil, or_false] at hn
    rcases hn with rfl | rfl
    · exact ⟨b1, b2⟩
    · exact ⟨b3, b4⟩
  have hof' : ∀ p ∈ L', ∃ c ∈ cs, p.2 = [c.1, c.2] := fun p hp => hof p (hL1 p (hpm.mem_iff.mp hp))
  let toP : Addr × List Int → Int × Int := fun p => (p.2.getD 0 0, p.2.getD 1 0)
  have hto : ∀ p ∈ L', p.2 = [(toP p).1, (toP p).2] ∧ toP p ∈ cs := fun p hp => by
    obtain ⟨c, hc, e⟩ := hof' p hp
    have : toP p = c := by show (p.2.getD 0 0, p.2.getD 1 0) = c; rw [e]; rfl
    rw [this]
    exact ⟨e, hc⟩
  have em : L'.map (·.2) = (L'.map toP).map fun c => [c.1, c.2] := by
    rw [List.map_map]
    exact List.map_congr_left fun p hp => (hto p hp).1
  have hd : DtAll K (upd F1 st (SetTO P w st L)) (L'.map fun q => V.ref q.1) ((L'.map toP).map pairD) := pairs_dtF (fun p hp => same_t e2 (hks p (hL1 p (hpm.mem_iff.mp hp)))) em
  obtain ⟨a3, e3⟩ := a2.alloc (o := .lst (L'.map fun q => V.ref q.1)) hp
  refine q A1 _ _ _ _ (hk (L'.map toP) (fun c => ⟨fun hc => ?_, fun hc => ?_⟩) ?_) ((e1.trans e2).trans e3) a3 (.lst upd_same (hd.mono e3))
  · obtain ⟨p, hp, rfl⟩ := List.mem_map.mp hc
    exact (hto p hp).2
  · have h3 : [c.1, c.2] ∈ ks.map (·.2) := by
      rw [ek]
      exact List.mem_map.mpr ⟨c, hc, rfl⟩
    obtain ⟨p, hp, e⟩ := List.mem_map.mp h3
    have h4 := hL2 p hp
    rw [e] at h4
    obtain ⟨p', hp', e'⟩ := List.mem_map.mp h4
    refine List.mem_map.mpr ⟨p', hpm.mem_iff.mpr hp', ?_⟩
    show (p'.2.getD 0 0, p'.2.getD 1 0) = c
    rw [e']
    rfl
  · rw [em] at hnd
    have hnd2 : List.Pairwise (fun a b : Int × Int => a ≠ b) (L'.map toP) := by
      refine List.Pairwise.of_map (f := fun c : Int × Int => [c.1, c.2]) (fun x y hxy e => ?_) hnd
      exact hxy (by rw [e])
    rw [List.pairwise_map] at hnd2 ⊢
    refine (hnd2.and hpw).imp_of_mem fun {x y} hx hy hxy => ?_
    obtain ⟨n1, n2⟩ := hxy
    obtain ⟨ex, cx⟩ := hto x hx
    obtain ⟨ey, cy⟩ := hto y hy
    obtain ⟨b1, b2⟩ := hb _ cx
    obtain ⟨b3, b4⟩ := hb _ cy
    rw [ex, ey] at n2
    have := L2.pair_lt n2 (fun e => n1 (by
      injection e with h1 h2
      injection h2 with h2
      exact Prod.ext h1 h2)) b1 b2 b3 b4
    unfold ltP
    rcases this with h | ⟨h, h'⟩
    · rw [if_neg (by omega)]; exact decide_eq_true h
    · rw [if_pos h]; exact decide_eq_true h'
/-! ### texts by their order -/
def rLtS : R2 := fun x y H Q => ∃ i j, x = .str i ∧ y = .str j ∧ Q (.bl (decide (i.cps.toList < j.cps.toList))) H
theorem op_ltS {X : Cx} : OpR X (compareOp .Lt) rLtS := op_lt_str
theorem rw_ltS {x y : Str} (h : k A (.dat (.bool (decide (x.cps.toList < y.cps.toList))))) : RW K rLtS (.dat (.str x)) (.dat (.str y)) A k := fun R F H v w Q a r1 r2 q => by
  obtain rfl := sr_str r1
  obtain rfl := sr_str r2
  exact ⟨_, _, rfl, rfl, q _ _ _ _ _ h (Same.refl _) a (.bl _)⟩
end
/-! ### a tuple beside the empty one -/
def rEqE (K : PySem.W.Frag) : R2 := fun x y H Q => ∃ (a b : Addr) (xs : List V), x = .ref a ∧ y = .ref b ∧ SqT K H a xs ∧ SqT K H b [] ∧ Q (.bl xs.isEmpty) H
theorem op_eqE {X : Cx} (hu : X.A.units + 65 < cLine) : OpR X (compareOp .Eq) (rEqE X.K) := by
  intro pins s σ H x y v u Q I rx ry h
  obtain ⟨a, b, xs, rfl, rfl, ha, hb, q⟩ := h
  cases rx
  cases ry
  obtain ⟨its, r1, p1, _⟩ := I.tuple ha
  obtain ⟨its2, r2, p2, _⟩ := I.tuple hb
  cases r2
  refine PySem.SeqAt.eq_tupleAt (e := fun _ => true) p1 p2 (by omega) (fun j h1 h2 => absurd h2 (by simp)) ⟨.bl xs.isEmpty, H, I, ?_, q⟩
  cases r1 with
  | nil => rfl
  | cons r t => rfl
theorem op_eqEK (K : PySem.W.Frag) {X : Cx} (hu : X.A.units + 65 < cLine) (h : X.K = K := by rfl) : OpR X (compareOp .Eq) (rEqE K) := h ▸ op_eqE hu
section
variable {K : PySem.W.Frag} {A : Amb} {S : List SV} {k : KA} {te to : TE}
theorem rw_eqE {ds : List PyData} (h : k A (.dat (.bool ds.isEmpty))) : RW K (rEqE K) (.dat (.tuple ds)) (.dat (.tuple [])) A k := fun R F H v w Q a r1 r2 q => by
  obtain ⟨p, xs, rfl, h1, h2⟩ := sr_tup r1
  obtain ⟨p2, ys, rfl, h3, h4⟩ := sr_tup r2
  cases h4
  have e : ds.isEmpty = xs.isEmpty := by cases h2 <;> rfl
  refine ⟨p, p2, xs, rfl, rfl, same_t a.same h1, same_t a.same h3, ?_⟩
  rw [← e]
  exact q _ _ _ _ _ h (Same.refl _) a (.bl _)
/-! ### xs.index(n), numbers -/
theorem mt_indexK (K : PySem.W.Frag) {X : Cx} (h : X.K = K := by rfl) : MtR X "list.index" (rIndex K) := h ▸ mt_index
theorem wp_index (h : Wp K A to S fun A1 s => ∃ ns : List Int, s = .dat (.list (ns.map .int)) ∧ Wp K A1 te S fun A2 s2 => ∃ (n : Int) (j : Nat), s2 = .dat (.int n) ∧ ns[j]? = some n ∧ (∀ m : Nat, m < j → ns[m]? ≠ some n) ∧ k A2 (.dat (.int j))) :
    Wp K A (tBM K "list" (rIndex K) to (tCons te tNil)) S k := fun R F σ H Q a sd q =>
  h R F σ H _ a sd fun A1 s v F1 H1 ⟨ns, hs, hw⟩ e1 a1 r1 => by
    subst hs
    obtain ⟨p, xs, rfl, h1, h2⟩ := sr_lst r1
    have e := dt_ints h2
    subst e
    refine ⟨.inl ⟨rfl, _, .inl (.inl (a1.same _ _ h1))⟩, hw R F1 σ H1 _ a1 (sd.mono e1) fun A2 s2 w F2 H2 ⟨n, j, hs2, hj, hno, hk⟩ e2 a2 r2 => ?_⟩
    subst hs2
    obtain rfl := sr_int r2
    refine ⟨p, ns.map V.int, .int n, j, .int n, rfl, rfl, .inl (.inl ((e2.trans a2.same) _ _ h1)), rfl, ?_, by rw [List.getElem?_map, hj]; rfl, by simp [eqV], fun m z' hm hz => ?_, ?_⟩
    · rw [List.all_eq_true]
      intro z hz
      obtain ⟨i, _, rfl⟩ := List.mem_map.mp hz
      rfl
    · rw [List.getElem?_map] at hz
      obtain ⟨i, hi, rfl⟩ := Option.map_eq_some_iff.mp hz
      have : i ≠ n := fun e => hno m hm (by rw [hi, e])
      simp [eqV, this]
    · exact q _ _ _ _ _ hk (e1.trans e2) a2 (.int _)
end
/-! ### x in an owned dict -/
section
variable {K : PySem.W.Frag} {A : Amb} {S : List SV} {k : KA} {ty td : TE}
theorem look_some {F : Hp} {vs : List (Key × V)} {kvs : List (Key × SV)} (h : KVR K F vs kvs) (x : Key) : (valV vs x).isSome = (lookS kvs x).isSome := by
  obtain ⟨h1, h2⟩ := kvr_look (x := x) h
  cases e : lookS kvs x with
  | none => rw [h2 e]; rfl
  | some s =>
    obtain ⟨v, hv, _⟩ := h1 s e
    rw [hv]
    rfl
theorem wp_din (h : Wp K A ty S fun A1 s1 => Wp K A1 td S fun A2 s2 => ∃ p kvs x, s2 = .ptr p ∧ s1 = .dat (keyD x) ∧ (p, .dk kvs) ∈ A2.cells ∧ k A2 (.dat (.bool (lookS kvs x).isSome))) : Wp K A (tDIn ty td) S k := fun R F σ H Q a sd q =>
  h R F σ H _ a sd fun A1 s1 v F1 H1 h1 e1 a1 r1 => h1 R F1 σ H1 _ a1 (sd.mono e1) fun A2 s2 w F2 H2 ⟨p, kvs, x, hs2, hs, hp, hk⟩ e2 a2 r2 => by
    subst hs; subst hs2
    obtain rfl : w = .ref p := r2
    obtain rfl := keyD_v r1
    obtain ⟨vs, h3, h4⟩ := a2.cell hp
    refine ⟨p, _, rfl, DGet.k h3, ?_⟩
    rw [look_some h4]
    exact q A2 _ _ F2 H2 hk (e1.trans e2) a2 (.bl _)
theorem wp_dnotin (h : Wp K A ty S fun A1 s1 => Wp K A1 td S fun A2 s2 => ∃ p kvs x, s2 = .ptr p ∧ s1 = .dat (keyD x) ∧ (p, .dk kvs) ∈ A2.cells ∧ k A2 (.dat (.bool (!(lookS kvs x).isSome)))) : Wp K A (tDNotIn ty td) S k := fun R F σ H Q a sd q =>
  h R F σ H _ a sd fun A1 s1 v F1 H1 h1 e1 a1 r1 => h1 R F1 σ H1 _ a1 (sd.mono e1) fun A2 s2 w F2 H2 ⟨p, kvs, x, hs2, hs, hp, hk⟩ e2 a2 r2 => by
    subst hs; subst hs2
    obtain rfl : w = .ref p := r2
    obtain rfl := keyD_v r1
    obtain ⟨vs, h3, h4⟩ := a2.cell hp
    refine ⟨p, _, rfl, DGet.k h3, ?_⟩
    rw [look_some h4]
    exact q A2 _ _ F2 H2 hk (e1.trans e2) a2 (.bl _)
end
theorem atI_at {α : Type} {xs : List α} {a : Int} {x : α} (h0 : 0 ≤ a) (h1 : xs[a.toNat]? = some x) : atI xs a = some x := by
  have := (List.getElem?_eq_some_iff.mp h1).1
  unfold atI ixN
  rw [if_pos h0, if_pos (by omega)]
  exact h1
theorem ixN_at {n : Nat} {a : Int} (h0 : 0 ≤ a) (h1 : a < n) : ixN n a = some a.toNat := by
  unfold ixN
  rw [if_pos h0, if_pos h1]
/-- what is returned from here on leaves an owned object behind -/
theorem go_rtdrop {K : PySem.W.Frag} {A : Amb} {S : List SV} {E : DE} {tu : TS} (h : Go K A tu S ⟨E.nx, E.bk, E.ct, fun A1 s => ∃ p c l', Rem A1.cells p c l' ∧ E.rt ⟨A1.I, l'⟩ s⟩) : Go K A tu S E := fun R F σ H D a sd o =>
  h R F σ H D a sd ⟨o.nx, o.bk, o.ct, fun A1 s v F' H' ⟨p, c, l', hr, hk⟩ e a1 r => o.rt _ _ _ _ _ hk e (a1.drop hr) r⟩
end DL

/-! The data layer: t[::-1], truths among numbers, str(x), a, b = a list. -/
namespace DL
open PySem L2 PySem.Spec PyProof.Rows
section
variable {prog : Program} {w : World} {A : Around} {E : Value → Shared → Prop} {s : Shared}
theorem places_neg (n : Nat) : Builtin.Slice.slicePlaces ((n : Int) - 1) (-1) (-1) = n := by
  unfold Builtin.Slice.slicePlaces
  have h1 : ¬ ((-1 : Int) > 0) := by omega
  simp only [h1, if_false]
  split
  · simp
  · omega
theorem sliceApplied_neg {sl : Addr} {n : Nat} {u : Tok} {Q : Int × Int × Nat → Shared → Prop} (hs : s.heap.IsSliceOf sl .none .none (.int (-1) u))
    (h : Q ((n : Int) - 1, -1, n) s) : wpAny (model prog w) A (Builtin.Slice.sliceApplied (.ref sl) (pure (n : Int))) Q E s := by
  obtain ⟨os, hos, hcs, hds⟩ := id hs
  unfold Builtin.Slice.sliceApplied Builtin.Slice.sliceFields
  refine wpAny_bind (wpAny_bind (wpAny_field hos hds (x := .none) rfl (wpAny_bind (wpAny_field hos hds (x := .none) rfl (wpAny_bind (wpAny_field hos hds (x := .int (-1) u) rfl (wpAny_pure ?_)))))))
  refine wpAny_bind (slicePart_int ?_)
  show wpAny _ _ (if ((-1 : Int) == 0) = true then _ else _) _ _ s
  rw [if_neg (by decide)]
  refine wpAny_bind (slicePart_none (wpAny_bind (slicePart_none (wpAny_bind (wpAny_pure ?_)))))
  show wpAny _ _ (match Builtin.Slice.sliceAdjust none none (-1) (n : Int) with | (lo, hi) => pure (lo, (-1 : Int), Builtin.Slice.slicePlaces lo hi (-1))) _ _ s
  have e : Builtin.Slice.sliceAdjust none none (-1) (n : Int) = ((n : Int) - 1, -1) := by
    unfold Builtin.Slice.sliceAdjust
    simp
  rw [e]
  show wpAny _ _ (pure ((n : Int) - 1, (-1 : Int), Builtin.Slice.slicePlaces ((n : Int) - 1) (-1) (-1))) _ _ s
  rw [places_neg]
  exact wpAny_pure h
theorem pick_neg (xs : Array Value) : ((List.range xs.size).filterMap fun (m : Nat) => xs[(((xs.size : Int) - 1) + (m : Int) * (-1)).toNat]?).toArray = xs.toList.reverse.toArray := by
  congr 1
  have e : ∀ k, k ≤ xs.size → ((List.range k).filterMap fun (m : Nat) => xs[(((xs.size : Int) - 1) + (m : Int) * (-1)).toNat]?) = xs.toList.reverse.take k := by
    intro k
    induction k with
    | zero => intro _; rfl
    | succ k ih =>
      intro hk
      rw [List.range_succ, List.filterMap_append, ih (by omega), List.take_add_one]
      congr 1
      have hi : (((xs.size : Int) - 1) + (k : Int) * (-1)).toNat = xs.size - 1 - k := by omega
      have hr : xs.toList.reverse[k]? = xs[xs.size - 1 - k]? := by
        rw [List.getElem?_reverse (by rw [Array.length_toList]; omega), Array.length_toList, Array.getElem?_toList]
      simp only [List.filterMap_cons, List.filterMap_nil, hi, hr]
      cases xs[xs.size - 1 - k]? <;> rfl
  rw [e xs.size (Nat.le_refl _)]
  exact List.take_of_length_le (by rw [List.length_reverse, Array.length_toList]; exact Nat.le_refl _)
theorem getItem_tuple_rev {t sl : Addr} {items : Array Value} {u : Tok} {Q : Value → Shared → Prop} (ht : IsTup s.heap t items) (hs : s.heap.IsSliceOf sl .none .none (.int (-1) u))
    (h : Q (.ref s.heap.objs.size) { s with heap := s.heap.push { cls := .type "tuple", data := .seq items.toList.reverse.toArray } })
    (hsz : items.size ≤ sizeLine) : wpAny (model prog w) A (getItem (.ref t) (.ref sl)) Q E s := by
  have htake : sizeOk (.seq items.toList.reverse.toArray) := by
    show items.toList.reverse.toArray.size ≤ sizeLine
    rw [List.size_toArray, List.length_reverse, Array.length_toList]
    exact hsz
  obtain ⟨os, hos, hcs, hds⟩ := id hs
  have hTs : s.TypeIs (.ref sl) "slice" := ⟨os, hos, hcs⟩
  unfold getItem
  try with_reducible refine wpAny_holding ?_
  first | refine wpAny_bind (wpAny_pure ?_) | skip
  refine wpAny_bind (wpAny_sequenceKey ht.typeIs (by decide) ?_)
  refine wpAny_bind (wpAny_callSpecial?_slot (name := Str.ofString "__getitem__") ht.typeIs PyProof.Rows.slot_tuple_getitem
    (wpAny_call_entry PyProof.Rows.slot_tuple_getitem ht.typeIs entry_tuple_getitem ?_ (args_tuple_getitem _ _)))
  show wpAny _ _ (Builtin.Tuple.tupleItemsOf (.ref t) >>= _) _ _ s
  refine wpAny_bind (PyProof.Rows.tupleItemsOf_ ht ?_)
  refine wpAny_bind (wpAny_typeOf hTs ?_)
  rw [if_pos (by decide)]
  refine wpAny_bind (sliceApplied_neg hs ?_)
  have hno : ¬ ((((items.size : Int) - 1) == 0 && (-1 : Int) == 1 && items.size == items.size) = true) := by simp
  show wpAny _ _ (if (((items.size : Int) - 1) == 0 && (-1 : Int) == 1 && items.size == items.size) = true then _ else _) _ _ s
  rw [if_neg hno, pick_neg]
  first
    | exact wpAny_bind (m := Builtin.Tuple.tupleExact _) (wpAny_newObj_type (wpAny_pure ⟨_, rfl, wpAny_pure h⟩) htake)
    | exact wpAny_bind (m := Builtin.Tuple.tupleExact _) (wpAny_newObj_type (wpAny_bind (wpAny_pure (wpAny_pure ⟨_, rfl, wpAny_pure h⟩))) htake)
    | exact wpAny_bind (wpAny_bind (m := Builtin.Tuple.tupleExact _) (wpAny_newObj_type (wpAny_pure (wpAny_pure ⟨_, rfl, wpAny_pure h⟩)) htake))
    | exact wpAny_bind (wpAny_bind (m := Builtin.Tuple.tupleExact _) (wpAny_newObj_type (wpAny_pure ⟨_, rfl, wpAny_pure h⟩) htake))
end
def tRevT (K : PySem.W.Frag) (te : TE) (ts : TO) : TE := fun σ H Q => te σ H fun x H1 => ts σ H1 fun o H2 => ∃ a xs, x = .ref a ∧ SqT K H2 a xs ∧ o = some (-1) ∧ ∀ p, H2 p = none → Q (.ref p) (upd H2 p (.tup xs.reverse))
theorem pe_revT {X : Cx} {e st : Expr} {te : TE} {ts : TO} {p3 pos : Pos} (he : PE X e te) (hst : PO X (some st) ts) : PE X (.Subscript e (.Slice none none (some st) p3) pos) (tRevT X.K te ts) := by
  refine ⟨fun pins s σ H Q I h => ?_⟩
  refine Subscript_ (thn (he.run pins s σ H _ I h) fun v s1 ⟨x, H1, I1, r1, q1⟩ => ?_)
  refine wpAny_Slice (thn (po_none.run pins s1 σ H1 (fun o H2 => o = none ∧ H2 = H1) I1 ⟨rfl, rfl⟩) fun vl s2 ⟨l, H2, I2, pl, el, e2⟩ => ?_)
  subst el e2
  refine thn (po_none.run pins s2 σ H2 (fun o H3 => o = none ∧ H3 = H2) I2 ⟨rfl, rfl⟩) fun vu s3 ⟨u, H3, I3, pu, eu, e3⟩ => ?_
  subst eu e3
  refine thn (hst.run pins s3 σ H3 _ I3 q1) fun vs s4 ⟨o, H4, I4, ps, q⟩ => ?_
  obtain ⟨a, xs, ex, hx, ho, q⟩ := q
  subst ex ho
  cases r1
  cases pl
  cases pu
  cases ps with
  | int i t =>
  have I5 : Inv X pins σ H4 { s4 with heap := s4.heap.push { cls := .type "slice", data := .fields #[.none, .none, .int (-1) t] } } := I4.kept (t' := s4.toks) fun b ob q => Heap.get?_push_of_some _ q
  obtain ⟨its, r, ht, hz⟩ := I5.tuple hx
  show wpAny (model X.prog X.w) X.A (subscriptTail e (.Slice none none (some st) p3) (.ref a) (.ref s4.heap.objs.size)) (EP X pins σ Q) X.xe { s4 with heap := s4.heap.push { cls := .type "slice", data := .fields #[.none, .none, .int (-1) t] } }
  refine tail_any (ops := [.ref a, .ref s4.heap.objs.size]) ht.typeIs (PyProof.Rows.slot_tuple_getitem.lookup) ?_ (by with_unfolding_all rfl)
  have hlen := r.length
  refine getItem_tuple_rev ht (Heap.IsSliceOf.new _ .none .none (.int (-1) t)) ?_ (by rw [List.size_toArray]; omega)
  refine ⟨.ref _, _, I5.laid (t' := s4.toks) (o := .tup xs.reverse) (fun b ob q => Heap.get?_push_of_some _ q) (Nat.le_refl _) ?_, rfl, q _ (I5.hok.fresh (Nat.le_refl _))⟩
  exact ⟨by rw [List.length_reverse]; exact hz, _, r.reverse, IsTup.new _ _⟩
theorem pe_revTK (K : PySem.W.Frag) {X : Cx} {e st : Expr} {te : TE} {ts : TO} {p3 pos : Pos} (he : PE X e te) (hst : PO X (some st) ts) (h : X.K = K := by rfl) : PE X (.Subscript e (.Slice none none (some st) p3) pos) (tRevT K te ts) := h ▸ pe_revT he hst
section
variable {K : PySem.W.Frag} {A : Amb} {S : List SV} {k : KA} {te : TE} {ts : TO}
theorem wp_revT (h : Wp K A te S fun A1 s => WpO K A1 ts S fun A2 o => ∃ ds : List PyData, s = .dat (.tuple ds) ∧ o = some (-1) ∧ k A2 (.dat (.tuple ds.reverse))) : Wp K A (tRevT K te ts) S k := fun R F σ H Q a sd q =>
  h R F σ H _ a sd fun A1 s v F1 H1 h1 e1 a1 r1 => h1 R F1 σ H1 _ a1 (sd.mono e1) fun A2 o F2 H2 ⟨ds, hs, ho, hk⟩ e2 a2 => by
    subst hs ho
    obtain ⟨p, xs, rfl, g1, g2⟩ := sr_tup (SR.mono e2 r1)
    refine ⟨p, xs, rfl, same_t a2.same g1, rfl, fun n hn => ?_⟩
    obtain ⟨a3, e3⟩ := a2.alloc (o := .tup xs.reverse) hn
    exact q _ _ _ _ _ hk ((e1.trans e2).trans e3) a3 (.tup (SqT.of upd_same) ((dt_rev g2).mono e3))
end
/-! ### truths among numbers -/
def numI : PyData → Option Int
  | .int i => some i
  | .bool b => some (if b = true then 1 else 0)
  | _ => none
def rAddU : R2 := fun x y H Q => ∃ (i j : Int), ((x = .int i) ∨ ∃ b : Bool, x = .bl b ∧ i = if b = true then 1 else 0) ∧ y = .int j ∧ Q (.int (i + j)) H
theorem op_addU {X : Cx} : OpR X (binaryOp .Add) rAddU := by
  intro pins s σ H x y v u Q I rx ry h
  obtain ⟨i, j, hx, rfl, q⟩ := h
  rcases hx with rfl | ⟨b, rfl, rfl⟩
  · exact op_add pins s σ H _ _ v u Q I rx ry ⟨i, j, rfl, rfl, q⟩
  · obtain ⟨t, rfl⟩ := ry
    cases rx
    exact PySem.IntBool.add_bool_int ⟨.int _, H, I.tok _, ⟨_, rfl⟩, q⟩
def rStrU : List V → Hp → VK → Prop := fun xs H Q => (∃ i : Int, xs = [.int i] ∧ i.natAbs.log2 < 1920 ∧ Q (.str (toString i)) H) ∨ ∃ b : Bool, xs = [.bl b] ∧ Q (.str (if b then "True" else "False")) H
theorem call_strU {X : Cx} : CallR X (.type "str") rStrU := by
  intro pins s σ H xs us Q I r h
  rcases h with ⟨i, rfl, hz, q⟩ | ⟨b, rfl, q⟩
  · exact call_str_int pins s σ H _ us Q I r ⟨i, rfl, hz, q⟩
  · obtain ⟨u, rfl, hu⟩ := vals1 r
    cases hu
    exact PySem.P.str_of_bool ⟨.str _, H, I.tok _, ⟨_, rfl⟩, q⟩
def gUnlK := @gUnl
theorem pg_unlK (K : PySem.W.Frag) {X : Cx} {es : List Expr} {k : Nat} {pos : Pos} {t : TGs} (n : Nat) (hc : X.calm = true) (hp : PGs X es t) (hn : (assignEach es X.env).length = n := by rfl) (hst : (assignEach es X.env).findIdx? (·.1) = none := by rfl) (h : X.K = K := by rfl) : PG X (.Tuple es k pos) (gUnl K n t) := h ▸ pg_unl hc hp hn hst
section
variable {K : PySem.W.Frag} {A : Amb} {S : List SV} {k : KA}
theorem rw_addU {d : PyData} {i j : Int} (e : numI d = some i) (h : k A (.dat (.int (i + j)))) : RW K rAddU (.dat d) (.dat (.int j)) A k := fun R F H v w Q a r1 r2 q => by
  obtain rfl := sr_int r2
  refine ⟨i, j, ?_, rfl, q _ _ _ _ _ h (Same.refl _) a (.int _)⟩
  cases d with
  | int i' => cases e; exact .inl (sr_int r1)
  | bool b => cases e; exact .inr ⟨b, sr_bl r1, rfl⟩
  | _ => cases e
theorem cw_strU {d : PyData} {i : Int} (e : numI d = some i) (hs : i.natAbs.log2 < 1920) (h : k A (.dat (.str d.shown))) : CW K rStrU [.dat d] A k := fun R F H vs Q a r q => by
  obtain ⟨v, rfl, r1⟩ := one_of r
  cases d with
  | int i' =>
    cases e
    obtain rfl := sr_int r1
    exact .inl ⟨i, rfl, hs, q _ _ _ _ _ h (Same.refl _) a (.str _)⟩
  | bool b =>
    obtain rfl := sr_bl r1
    exact .inr ⟨b, rfl, q _ _ _ _ _ h (Same.refl _) a (.str _)⟩
  | _ => cases e
theorem gw_unl {n : Nat} {u : TGs} {ds : List PyData} {k : KS} (hn : ds.length = n) (h : GWs K u (ds.map .dat) S A k) : GW K (gUnl K n u) (.dat (.list ds)) S A k := fun R F σ H v Q a sd r q => by
  obtain ⟨p, xs, rfl, h1, h2⟩ := sr_lst r
  exact ⟨p, xs, rfl, .inl (.inl (a.same _ _ h1)), by rw [h2.length]; exact hn, h R F σ H xs Q a sd (dats_srs h2) q⟩
end
/-- a def's promises by a number, at most so great -/
theorem fn_some {P : Program} {w : World} {K : PySem.W.Frag} {mg : Str → Option Value} {base : Heap} {CX : CXT} {f : Addr} {fd : FuncData} {ps : List Str} {lev mx L : Nat} {W : Nat → List SV → Amb → KA → Prop}
    (h : ∀ n, FnOk P w K mg base CX (lev + n) f fd ps (spW K (W n))) (hl : ∀ n, n ≤ mx → lev + n ≤ L) : FnOk P w K mg base CX L f fd ps (spW K fun ss A k => ∃ n, n ≤ mx ∧ W n ss A k) where
  len := fun vs H Q E ⟨A, R, F, ss, k, a, r, ⟨n, hn, hw⟩, q⟩ => (h n).len vs H Q E ⟨A, R, F, ss, k, a, r, hw, q⟩
  run := fun A outer s H args us vs Q E hr e0 b r ⟨A1, R, F, ss, k, a, rr, ⟨n, hn, hw⟩, q⟩ => ((h n).mono (hl n hn)).run A outer s H args us vs Q E hr e0 b r ⟨A1, R, F, ss, k, a, rr, hw, q⟩
end DL

/-! The data layer: `is` between truths. -/
namespace DL
open PySem L2
def rIsB1 : R2 := fun x y H Q => ∃ a b, x = .bl a ∧ y = .bl b ∧ Q (.bl (decide (a = b))) H
def rNotB1 : R2 := fun x y H Q => ∃ a b, x = .bl a ∧ y = .bl b ∧ Q (.bl (!decide (a = b))) H
theorem op_isBl1 {X : Cx} : OpR X (compareOp .Is) rIsB1 := op_is_bl
theorem op_notBl1 {X : Cx} : OpR X (compareOp .IsNot) rNotB1 := op_isnot_bl
section
variable {K : PySem.W.Frag} {A : Amb} {k : KA}
theorem rw_isB {x y : Bool} (h : k A (.dat (.bool (decide (x = y))))) : RW K rIsB1 (.dat (.bool x)) (.dat (.bool y)) A k := fun R F H v w Q a r1 r2 q => by
  obtain rfl := sr_bl r1
  obtain rfl := sr_bl r2
  exact ⟨_, _, rfl, rfl, q _ _ _ _ _ h (Same.refl _) a (.bl _)⟩
theorem rw_notB {x y : Bool} (h : k A (.dat (.bool (!decide (x = y))))) : RW K rNotB1 (.dat (.bool x)) (.dat (.bool y)) A k := fun R F H v w Q a r1 r2 q => by
  obtain rfl := sr_bl r1
  obtain rfl := sr_bl r2
  exact ⟨_, _, rfl, rfl, q _ _ _ _ _ h (Same.refl _) a (.bl _)⟩
end
end DL

/-! The data layer: split, partition, int, f-strings, joined tuples, a star among the targets of a list. -/
namespace DL
open PySem L2 RZ PyProof.Rows
open Sem (wp)
theorem strs_dt {F : Hp} {K : PySem.W.Frag} : ∀ ys : List Str, DtAll K F (ys.map V.str) (ys.map PyData.str)
  | [] => .nil
  | y :: ys => .cons (.str _) (strs_dt ys)
def rSplitW : V → List V → Hp → VK → Prop := fun x xs H Q => ∃ a b, x = .str a ∧ xs = [.str b] ∧ (b.length == 0) = false ∧ a.length + 2 ≤ sizeLine ∧ rNewStrs (Txt.split a b) H Q
theorem mt_splitW {X : Cx} : MtR X "str.split" rSplitW := mt_split
def rPartW : V → List V → Hp → VK → Prop := fun x xs H Q => ∃ a b, x = .str a ∧ xs = [.str b] ∧ (b.length == 0) = false ∧ a.length ≤ sizeLine ∧
    ∀ p, H p = none → Q (.ref p) (upd H p (.tup [.str (Txt.partition a b).1, .str (Txt.partition a b).2.1, .str (Txt.partition a b).2.2]))
theorem mt_partW {X : Cx} : MtR X "str.partition" rPartW := mt_partition
def rIntS : List V → Hp → VK → Prop := fun xs H Q => ∃ a n, xs = [.str a] ∧ PySem.intText? a = some n ∧ a.length ≤ 640 ∧ Q (.int n) H
theorem call_intS {X : Cx} : CallR X (.type "int") rIntS := call_int_str
/-- f'..' -/
def tJoined (ts : List TE) : TE := fun σ H Q => tJs ts Str.empty σ H fun out H1 => Q (.str out) H1
theorem pe_joinedT {X : Cx} {v1 v2 : Expr} {rest : List Expr} {ts : List TE} {pos : Pos} (h : PJ X (v1 :: v2 :: rest) ts) : PE X (.JoinedStr (v1 :: v2 :: rest) pos) (tJoined ts) := pe_joined h
section
variable {K : PySem.W.Frag} {A : Amb} {S : List SV} {k : KA} {to te : TE}
theorem wp_split (h : Wp K A to S fun A1 s => ∃ a, s = .dat (.str a) ∧ Wp K A1 te S fun A2 s2 => ∃ b, s2 = .dat (.str b) ∧ (b.length == 0) = false ∧ a.length + 2 ≤ sizeLine ∧ k A2 (.dat (.list ((Txt.split a b).map .str)))) :
    Wp K A (tBM K "str" rSplitW to (tCons te tNil)) S k := fun R F σ H Q a sd q =>
  h R F σ H _ a sd fun A1 s v F1 H1 ⟨z, hs, h1⟩ e1 a1 r1 => by
    subst hs
    obtain rfl := sr_str r1
    refine ⟨rfl, h1 R F1 σ H1 _ a1 (sd.mono e1) fun A2 s2 w F2 H2 ⟨b, hs2, hb, hz, hk⟩ e2 a2 r2 => ?_⟩
    subst hs2
    obtain rfl := sr_str r2
    refine ⟨z, b, rfl, rfl, hb, hz, fun p hp => ?_⟩
    obtain ⟨a3, e3⟩ := a2.alloc (o := .lst ((Txt.split z b).map V.str)) hp
    exact q A2 _ _ _ _ hk ((e1.trans e2).trans e3) a3 (.lst upd_same (strs_dt _))
theorem wp_part (h : Wp K A to S fun A1 s => ∃ a, s = .dat (.str a) ∧ Wp K A1 te S fun A2 s2 => ∃ b, s2 = .dat (.str b) ∧ (b.length == 0) = false ∧ a.length ≤ sizeLine ∧ k A2 (.dat (.tuple [.str (Txt.partition a b).1, .str (Txt.partition a b).2.1, .str (Txt.partition a b).2.2]))) :
    Wp K A (tBM K "str" rPartW to (tCons te tNil)) S k := fun R F σ H Q a sd q =>
  h R F σ H _ a sd fun A1 s v F1 H1 ⟨z, hs, h1⟩ e1 a1 r1 => by
    subst hs
    obtain rfl := sr_str r1
    refine ⟨rfl, h1 R F1 σ H1 _ a1 (sd.mono e1) fun A2 s2 w F2 H2 ⟨b, hs2, hb, hz, hk⟩ e2 a2 r2 => ?_⟩
    subst hs2
    obtain rfl := sr_str r2
    refine ⟨z, b, rfl, rfl, hb, hz, fun p hp => ?_⟩
    obtain ⟨a3, e3⟩ := a2.alloc (o := .tup [.str (Txt.partition z b).1, .str (Txt.partition z b).2.1, .str (Txt.partition z b).2.2]) hp
    exact q A2 _ _ _ _ hk ((e1.trans e2).trans e3) a3 (.tup (SqT.of upd_same) (.cons (.str _) (.cons (.str _) (.cons (.str _) .nil))))
theorem wp_joinT (h : Wp K A to S fun A1 s => ∃ a, s = .dat (.str a) ∧ Wp K A1 te S fun A2 s2 => ∃ ys : List Str, s2 = .dat (.tuple (ys.map .str)) ∧ (ys.map (·.length)).sum + ys.length * a.length ≤ 16777216 ∧ k A2 (.dat (.str (Txt.join a ys)))) :
    Wp K A (tBM K "str" (rJoin K) to (tCons te tNil)) S k := fun R F σ H Q a sd q =>
  h R F σ H _ a sd fun A1 s v F1 H1 ⟨z, hs, h1⟩ e1 a1 r1 => by
    subst hs
    obtain rfl := sr_str r1
    refine ⟨rfl, h1 R F1 σ H1 _ a1 (sd.mono e1) fun A2 s2 w F2 H2 ⟨ys, hs2, hz, hk⟩ e2 a2 r2 => ?_⟩
    subst hs2
    obtain ⟨p, xs, rfl, f1, f2⟩ := sr_tup r2
    obtain rfl := dt_strs f2
    exact ⟨z, p, ys, rfl, rfl, .inr (same_t a2.same f1), hz, q A2 _ _ F2 H2 hk (e1.trans e2) a2 (.str _)⟩
theorem cw_intS {a : Str} {n : Int} (e : PySem.intText? a = some n) (hl : a.length ≤ 640) (h : k A (.dat (.int n))) : CW K rIntS [.dat (.str a)] A k := fun R F H vs Q at_ r q => by
  obtain ⟨v, rfl, r1⟩ := one_of r
  obtain rfl := sr_str r1
  exact ⟨a, n, rfl, e, hl, q _ _ _ _ _ h (Same.refl _) at_ (.int _)⟩
theorem wp_fmt (h : Wp K A te S fun A1 s => (∃ y : Str, s = .dat (.str y) ∧ y.length ≤ sizeLine ∧ k A1 (.dat (.str y))) ∨ ∃ i : Int, s = .dat (.int i) ∧ i.natAbs.log2 < 1920 ∧ k A1 (.dat (.str (toString i)))) :
    Wp K A (tFmt te) S k := fun R F σ H Q a sd q =>
  h R F σ H _ a sd fun A1 s v F1 H1 h1 e1 a1 r1 => by
    rcases h1 with ⟨y, hs, hz, hk⟩ | ⟨i, hs, hz, hk⟩
    · subst hs
      obtain rfl := sr_str r1
      exact .inl ⟨y, rfl, hz, q _ _ _ _ _ hk e1 a1 (.str _)⟩
    · subst hs
      obtain rfl := sr_int r1
      exact .inr ⟨i, rfl, hz, q _ _ _ _ _ hk e1 a1 (.str _)⟩
def WpJ (K : PySem.W.Frag) (A : Amb) (ts : List TE) (acc : Str) (S : List SV) (k : Amb → Str → Prop) : Prop := ∀ R F σ H Q, AtR K A R F H → SD K F σ S → (∀ A1 out F' H', k A1 out → Same F F' → AtR K A1 R F' H' → Q out H') → tJs ts acc σ H Q
theorem wpj_nil {acc : Str} {k : Amb → Str → Prop} (h : k A acc) : WpJ K A [] acc S k := fun R F σ H Q a sd q => q A acc F H h (Same.refl F) a
theorem wpj_cons {t : TE} {ts : List TE} {acc : Str} {k : Amb → Str → Prop} (h : Wp K A t S fun A1 s => ∃ y : Str, s = .dat (.str y) ∧ (acc ++ y).length ≤ sizeLine ∧ WpJ K A1 ts (acc ++ y) S k) : WpJ K A (t :: ts) acc S k := fun R F σ H Q a sd q =>
  h R F σ H _ a sd fun A1 s v F1 H1 ⟨y, hs, hz, hk⟩ e1 a1 r1 => by
    subst hs
    obtain rfl := sr_str r1
    exact ⟨y, rfl, hz, hk R F1 σ H1 Q a1 (sd.mono e1) fun A2 out F2 H2 h2 e2 a2 => q A2 out F2 H2 h2 (e1.trans e2) a2⟩
theorem wp_joined {ts : List TE} (h : WpJ K A ts Str.empty S fun A1 out => k A1 (.dat (.str out))) : Wp K A (tJoined ts) S k := fun R F σ H Q a sd q =>
  h R F σ H _ a sd fun A1 out F1 H1 hk e1 a1 => q A1 _ _ F1 H1 hk e1 a1 (.str _)
end
/-! ### a star among the targets of a list -/
section
variable {prog : Program} {w : World} {A : Around} {E : Value → Shared → Prop} {s : Shared}
theorem walk_fromL (hh : A.handled = none) (I ax : Addr) (hne : ax ≠ I) (items : Array Value) (i0 : Nat) (hi0 : i0 ≤ items.size) :
    Walks prog w A I [I, ax] [I] (items.size - i0) (fun j v => items[i0 + j]? = some v) (fun j h => h.IsListIter I ax (i0 + j) ∧ h.IsList ax items) where
  sub := fun b hb => by simp at hb; simp [hb]
  frame := fun _ _ _ st hk => ⟨st.1.at fun o e => hk I (by simp) o e, st.2.at fun o e => hk ax (by simp) o e⟩
  item := fun i s Q E hi st hQ => by
    have hlt : i0 + i < items.size := by omega
    refine wpAny_pyNext_list_item st.1 st.2 (x := items[i0 + i]) (by simp [hlt]) fun h' hit' hs' => ?_
    exact hQ _ h' s.toks (by simp [hlt]) ⟨hit', st.2.extBut hs'.extBut hne⟩ fun b o hb e => hs'.extBut b o (fun h => hb (by simp [h])) e
  done := fun s Q E st hQ => wpAny_pyNext_list_end hh st.1 st.2 (by rw [Array.getElem?_eq_none]; omega) fun h' he' => hQ h' s.toks fun b o hb e => he' b o (fun h => hb (by simp [h])) e
  self := fun _ _ _ _ st hQ => wpAny_pyIter_listiter st.1 hQ
theorem draw_listL {it t : Addr} {items : Array Value} (hne : t ≠ it) : ∀ (n i : Nat) (s : Shared) (Q : List Value → Shared → Prop), s.heap.IsListIter it t i → s.heap.IsList t items → i + n ≤ items.size →
    (∀ h', Heap.IsListIter h' it t (i + n) → Heap.SameBut it s.heap h' → Q ((items.toList.drop i).take n) { s with heap := h' }) → wpAny (model prog w) A (draw (.ref it) n) Q E s
  | 0, i, s, Q, hit, _, _, hQ => by
    show wpAny _ _ (pure []) Q E s
    exact wpAny_pure (by simpa using hQ s.heap hit (Heap.SameBut.refl ..))
  | n + 1, i, s, Q, hit, ht, hle, hQ => by
    have hlt : i < items.size := by omega
    show wpAny _ _ (pyNext (.ref it) >>= _) Q E s
    refine wpAny_bind (wpAny_pyNext_list_item hit ht (x := items[i]) (by simp [hlt]) fun h₁ hit₁ hs₁ => ?_)
    refine wpAny_bind (wpAny_holding (draw_listL hne n (i + 1) _ _ hit₁ (ht.extBut hs₁.extBut hne) (by omega) fun h₂ hit₂ hs₂ => wpAny_pure ?_))
    have hd : items.toList.drop i = items[i] :: items.toList.drop (i + 1) := by simp [List.drop_eq_getElem_cons, hlt]
    have := hQ h₂ (by rw [show i + (n + 1) = i + 1 + n by omega]; exact hit₂) (hs₁.trans hs₂)
    rw [hd, List.take_succ_cons] at this
    exact this
theorem unpack_starL {t : Addr} {items : Array Value} {i m : Nat} {Q : List Value → Shared → Prop} (hh : A.handled = none) (ht : s.heap.IsList t items) (hi : i + m ≤ items.size) (hz : items.size ≤ sizeLine)
    (hQ : ∀ (h' : Heap) (tk : Nat), (∀ b o, s.heap.get? b = some o → h'.get? b = some o) → Q (items.toList.take i ++ [.ref h'.objs.size] ++ items.toList.drop (items.size - m)) { s with heap := h'.push { cls := .type "list", data := .seq ((items.toList.drop i).take (items.size - m - i)).toArray }, toks := tk }) :
    wpAny (model prog w) A (unpackItems (.ref t) (i + 1 + m) (some i)) Q E s := by
  have hlt : t < s.heap.objs.size := by obtain ⟨o, ho, _⟩ := ht; exact Heap.lt_size ho
  have hne : t ≠ s.heap.objs.size := Nat.ne_of_lt hlt
  unfold unpackItems
  refine wpAny_bind ?_
  unfold notIterableAtAll
  refine wpAny_bind (wpAny_specialOf ht.typeIs slot_list_iter.lookup ?_)
  refine wpAny_pure ?_
  simp only [Bool.false_eq_true, if_false]
  refine wpAny_bind (wpAny_holding (wpAny_pyIter_list ht ?_))
  refine wpAny_bind (wpAny_holding (draw_listL hne i 0 _ _ ⟨_, Heap.get?_push_size _ rfl, rfl, rfl⟩ (ht.push _) (by omega) fun h₁ hit₁ hs₁ => ?_))
  have ht₁ : Heap.IsList h₁ t items := (ht.push _).extBut hs₁.extBut hne
  have hl1 : (List.take i (List.drop 0 items.toList)).length = i := by
    rw [List.drop_zero, List.length_take, Array.length_toList]
    omega
  rw [if_neg (by rw [hl1]; omega)]
  have hsz : h₁.objs.size = s.heap.objs.size + 1 := by
    rw [hs₁.1]
    exact Heap.size_push ..
  have hit₂ : Heap.IsListIter h₁ s.heap.objs.size t (i + 0) := by rw [Nat.add_comm]; exact hit₁
  refine wpAny_bind (wpAny_holding (wpAny_collect_iter (T := "list_iterator") (.inr (.inr (.inl rfl))) (walk_fromL (A := A.in1) (prog := prog) (w := w) hh s.heap.objs.size t hne items i (by omega)).toS
    (fun j s' st => st.1.typeIs) ⟨hit₂, ht₁⟩ (fun b hb => ?_) (by simp) (fun s' acc hm hacc => ?_) (by omega)))
  · show b < h₁.objs.size
    rw [hsz]
    simp only [List.mem_cons, List.not_mem_nil, or_false] at hb
    rcases hb with rfl | rfl
    · exact Nat.lt_succ_self _
    · exact Nat.lt_succ_of_lt hlt
  have hacc' : acc.toList = items.toList.drop i := by
    apply List.ext_getElem?
    intro j
    by_cases hj : j < acc.size
    · have h1 : acc[j]? = some acc[j] := Array.getElem?_eq_getElem hj
      have h2 := hacc.2 j _ h1
      rw [Array.getElem?_toList, h1, List.getElem?_drop, Array.getElem?_toList]
      exact h2.symm
    · have h1 := hacc.1
      rw [List.getElem?_eq_none (by rw [Array.length_toList]; omega), List.getElem?_eq_none (by rw [List.length_drop, Array.length_toList]; omega)]
  rw [hacc']
  have h0 : i + 1 + m - 1 - i = m := by omega
  simp only [h0]
  have hdl : (items.toList.drop i).length = items.size - i := by rw [List.length_drop, Array.length_toList]
  rw [if_neg (by rw [hdl]; omega)]
  rw [hdl, List.drop_drop]
  have e5 : i + (items.size - i - m) = items.size - m := by omega
  have e6 : items.size - i - m = items.size - m - i := by omega
  rw [e5, e6]
  obtain ⟨hp, gg, dd, tk, os⟩ := s'
  have e1 : gg = s.gens := hm.gens
  have e2 : dd = s.drawn := hm.drawn
  have e3 : os = s.os := hm.os
  subst e1 e2 e3
  have keep : ∀ b o, s.heap.get? b = some o → hp.get? b = some o := fun b o e => by
    have hb : b ≠ s.heap.objs.size := Nat.ne_of_lt (Heap.lt_size e)
    exact hm.heap b o (by simp only [List.mem_cons, List.not_mem_nil, or_false]; exact hb) (hs₁.extBut b o hb (Heap.get?_push_of_some _ e))
  refine wpAny_bind (wpAny_newObj_type ?_ (by show ((items.toList.drop i).take (items.size - m - i)).toArray.size ≤ sizeLine; rw [List.size_toArray, List.length_take, hdl]; omega))
  rw [List.drop_zero] at *
  refine wpAny_pure ?_
  have := hQ hp tk keep
  simpa using this
end
/-- a, *b, c = a list of at least n + m items, n ahead of the star, m behind -/
def gLstS (K : PySem.W.Frag) (n m : Nat) (t : TGs) : TG := fun v σ H Q => ∃ a xs, v = .ref a ∧ SqL K H a xs ∧ n + m ≤ xs.length ∧ ∀ D, H D = none → t (xs.take n ++ [.ref D] ++ xs.drop (xs.length - m)) σ (upd H D (.lst ((xs.drop n).take (xs.length - m - n)))) Q
theorem pgs_star {X : Cx} {e : Expr} {es : List Expr} {p : Pos} {t : TG} {ts : TGs} (h : PG X e t) (hr : PGs X es ts) : PGs X (.Starred e p :: es) (gCons t ts) := by
  refine ⟨fun pins s σ H vs us Q I r hw => ?_⟩
  obtain ⟨v, vr, e1, hw⟩ := hw
  subst e1
  cases r with
  | cons r rr =>
    show wpAny _ _ (assignInOrder (assign e X.env :: _) _) _ _ _
    refine assignInOrder_cons (thn (h.run pins s σ H _ _ _ I r hw) fun _ s1 ⟨σ1, H1, I1, q1⟩ => ?_)
    exact hr.run pins s1 σ1 H1 _ _ Q I1 rr q1
theorem pg_lstS {X : Cx} {es : List Expr} {k : Nat} {pos : Pos} {t : TGs} (n m : Nat) (hc : X.calm = true) (h : PGs X es t)
    (hn : (assignEach es X.env).length = n + 1 + m := by rfl) (hst : (assignEach es X.env).findIdx? (·.1) = some n := by rfl) : PG X (.Tuple es k pos) (gLstS X.K n m t) := by
  refine ⟨fun pins s σ H v u Q I r hw => ?_⟩
  obtain ⟨a, xs, e1, hq, hl, hw⟩ := hw
  subst e1
  cases r
  obtain ⟨its, rv, pl, hz⟩ := I.list hq
  have ht : s.heap.IsList a its.toArray := by
    obtain ⟨o, m, e, c, d, q⟩ := pl
    exact ⟨o, e, c, m, q⟩
  have hlen := rv.length
  rw [assign_Tuple]
  refine wpAny_bind (wpAny_standAt ?_)
  unfold unpack
  rw [hn, hst]
  refine wpAny_bind (wpAny_holding (unpack_starL (m := m) (I.ok.hd hc) ht (by rw [List.size_toArray]; omega) (by rw [List.size_toArray]; omega) fun h' tk hk => ?_))
  have I1 : Inv X pins σ H { s with heap := h', toks := tk } := I.kept hk
  have hf := I1.hok.fresh (Nat.le_refl _)
  have e7 : its.toArray.size = xs.length := by rw [List.size_toArray, hlen]
  have I2 := I1.laid (t' := tk) (a := h'.objs.size) (o := .lst ((xs.drop n).take (xs.length - m - n))) (h' := h'.push { cls := .type "list", data := .seq ((its.drop n).take (its.toArray.size - m - n)).toArray }) (fun b o e => Heap.get?_push_of_some _ e) (Nat.le_refl _) ⟨by rw [List.length_take, List.length_drop]; omega, (its.drop n).take (its.toArray.size - m - n), 0, by rw [e7]; exact Vals.take _ (Vals.drop n rv), Heap.get?_push_size _ rfl⟩
  refine h.run pins _ σ _ _ _ Q I2 ?_ (hw _ hf)
  rw [e7]
  exact Vals.append (Vals.append (by simpa using Vals.take n rv) (.cons rfl .nil)) (by simpa using Vals.drop (xs.length - m) rv)
theorem pg_lstSK (K : PySem.W.Frag) {X : Cx} {es : List Expr} {k : Nat} {pos : Pos} {t : TGs} (n m : Nat) (hc : X.calm = true) (h : PGs X es t)
    (hn : (assignEach es X.env).length = n + 1 + m := by rfl) (hst : (assignEach es X.env).findIdx? (·.1) = some n := by rfl) (hK : X.K = K := by rfl) : PG X (.Tuple es k pos) (gLstS K n m t) := hK ▸ pg_lstS n m hc h hn hst
theorem gw_lstS {K : PySem.W.Frag} {A : Amb} {S : List SV} {n m : Nat} {u : TGs} {ds : List PyData} {k : KS} (hn : n + m ≤ ds.length) (h : GWs K u ((ds.take n ++ [PyData.list ((ds.drop n).take (ds.length - m - n))] ++ ds.drop (ds.length - m)).map SV.dat) S A k) : GW K (gLstS K n m u) (.dat (.list ds)) S A k := fun R F σ H v Q a sd r q => by
  obtain ⟨p, xs, rfl, h1, h2⟩ := sr_lst r
  have el := h2.length
  rw [← el] at h hn
  refine ⟨p, xs, rfl, .inl (.inl (a.same _ _ h1)), hn, fun D hD => ?_⟩
  obtain ⟨a2, e2⟩ := a.alloc (o := .lst ((xs.drop n).take (xs.length - m - n))) hD
  refine h R _ σ _ _ Q a2 (sd.mono e2) ?_ (q.mono e2)
  rw [List.map_append, List.map_append]
  exact papp (papp (dats_srs ((h2.take n).mono e2)) (.cons (show SR K _ (.ref D) (.dat (.list ((ds.drop n).take (xs.length - m - n)))) from .lst upd_same (((h2.drop n).take _).mono e2)) .nil)) (dats_srs ((h2.drop _).mono e2))
end DL

/-! The data layer: == by an own __eq__ of two instances of one class. -/
namespace DL
open PySem L2
/-- x == y, both of the class at C, by its own __eq__ -/
def rOwnI (C : Addr) (sp : Sp) (E : XK) : R2 := fun x y H Q => ∃ a dx fs b dy gs, x = .ref a ∧ y = .ref b ∧ H a = some (.ins C dx fs) ∧ H b = some (.ins C dy gs) ∧ sp [x, y] H Q E
theorem op_ownI {X : Cx} {CX : CXT} {k : Nat} {C f : Addr} {fd : FuncData} {ps : List Str} {sp : Sp} {E : XK} (hm : Meth X.K C "__eq__" f) (nf : PySem.W.notFirst X.K C (.ref C) = true) (F : FnOk X.prog X.w X.K X.mg X.base CX k f fd ps sp)
    (hr : Room k X.A) (hb : Binds X.K fd ps []) (hx : Passes CX X E) : OpR X (compareOp .Eq) (rOwnI C sp E) := by
  intro pins s σ H x y v u Q I rx ry h
  obtain ⟨a, dx, fs, b, dy, gs, rfl, rfl, ha, hb', q⟩ := h
  cases (show v = Value.ref a from rx)
  cases (show u = Value.ref b from ry)
  obtain ⟨mA, O, _⟩ := ins_get I.hok ha
  obtain ⟨mB, O', _⟩ := ins_get I.hok hb'
  obtain ⟨od, J, _⟩ := O.look
  obtain ⟨od', J', _⟩ := O'.look
  obtain ⟨m, hF⟩ := I.fr
  show wpAny _ _ (richCompare .Eq (.ref a) (.ref b)) _ _ _
  refine PySem.W.cmp_K (op := .Eq) (tb := .ref C) hr.units0 hF I.ok.mod.kin J J'.type nf hm.at_ hm.fn ?_
  refine wpAny_mono (run_fn (us := [.ref a, .ref b]) (vs := [.ref a, .ref b]) F hr hb .nil hx I (.cons rfl (.cons rfl .nil)) q) (fun w s' z => ?_) fun _ _ x => x
  obtain ⟨z', H', I', rz, qz⟩ := z
  exact SlX.cmpback rz ⟨z', H', I', rz, qz⟩
def rIsC (C : Addr) : List V → Hp → VK → Prop := fun xs H Q => ∃ a dx fs, xs = [.ref a, .ref C] ∧ H a = some (.ins C dx fs) ∧ Q (.bl true) H
theorem call_isCW {X : Cx} {C : Addr} (c : C8.InsC X.K C) : CallR X (.builtin "isinstance") (rIsC C) := C8.call_isC c
section
variable {K : PySem.W.Frag} {A : Amb} {k : KA} {C : Addr} {W : List SV → Amb → KA → Prop} {EX : XK}
theorem rw_ownI {p q dx dy : Addr} {fs gs : List (Str × SV)} (hp : (p, .ins C dx fs) ∈ A.cells) (hq : (q, .ins C dy gs) ∈ A.cells) (h : W [.ptr p, .ptr q] A k) : RW K (rOwnI C (spW K W) EX) (.ptr p) (.ptr q) A k := fun R F H v w Q a r1 r2 qq => by
  obtain rfl : v = .ref p := r1
  obtain rfl : w = .ref q := r2
  obtain ⟨_, _, vs, h1, _⟩ := At.cell a p _ (List.mem_append_left _ hp)
  obtain ⟨_, _, us, h3, _⟩ := At.cell a q _ (List.mem_append_left _ hq)
  exact ⟨p, dx, vs, q, dy, us, rfl, rfl, h1, h3, A, R, F, _, k, a, .cons (show SR K F (.ref p) (.ptr p) from rfl) (.cons (show SR K F (.ref q) (.ptr q) from rfl) .nil), h, qq⟩
/-- isinstance(x, C), x an instance of the class at C -/
theorem wp_isC {S : List SV} {te : TE} (h : Wp K A te S fun A1 s => ∃ p dx fs, s = .ptr p ∧ (p, .ins C dx fs) ∈ A1.cells ∧ k A1 (.dat (.bool true))) : Wp K A (tCB (rIsC C) (tCons te (tCons (tC (.ref C)) tNil))) S k := fun R F σ H Q a sd q =>
  h R F σ H _ a sd fun A1 s v F1 H1 ⟨p, dx, fs, hs, hp, hk⟩ e1 a1 r1 => by
    subst hs
    obtain rfl : v = .ref p := r1
    obtain ⟨_, _, vs, h1, _⟩ := At.cell a1 p _ (List.mem_append_left _ hp)
    exact ⟨p, dx, vs, rfl, h1, q A1 _ _ F1 H1 hk e1 a1 (.bl _)⟩
end
/-- o.m(e, ..) of a built-in's method, within a comprehension too -/
theorem pe_bmK (K : PySem.W.Frag) {X : Cx} {o e : Expr} {es : List Expr} {to : TE} {t : TA} {name : Str} {apos cpos : Pos} {T id : String} {r : V → List V → Hp → VK → Prop} (pa : PlainAttrs T) (slot : Slot T name id) (hty : typeOf (.builtin id) = pure (.type "method_descriptor")) (hm : MtR X id r) (ho : PE X o to) (ha : PA X (e :: es) t)
    (hbase : attributeBase o name X.env (eval o X.env) = eval o X.env := by rfl)
    (hfew : ((backTo cpos (starEach (e :: es) X.env)).all (fun x => !x.1) && (backToKw cpos (keywordEach [] X.env)).all (fun x => x.1.isSome)
      && decide ((e :: es).length + ([] : List Keyword).length + (if ([] : List Keyword).isEmpty then 0 else 1) < 30)) = true := by rfl)
    (hline : (apos.endLine == cpos.line) = true := by rfl) (hs : starEach (e :: es) X.env = (false, eval e X.env) :: starEach es X.env := by rfl) (hplain : (backTo cpos (starEach es X.env)).any (·.1) = false := by rfl) (hK : X.K = K := by rfl) :
    PE X (.Call (.Attribute o name apos) (e :: es) [] cpos) (tBM K T r to t) := hK ▸ pe_bm pa slot hty hm ho ha hbase hfew hline hs hplain
theorem kit_self {K : PySem.W.Frag} {C : Addr} : PySem.W.kitOne K (.ref C) (.ref C) = some true := by
  unfold PySem.W.kitOne
  rw [if_pos]
  first | exact beq_self_eq_true _ | simp | rfl | decide
end DL

namespace Q84
open PySem L2 DL
def topS (i : Nat) : Stmt := PySem.Challenge.pw_lothouse_k84_texts_written_and_read.main.body.getD i (.Pass ⟨0, 0, 0, 0⟩)
abbrev NN_Plan___eq__ : List Str := ["self", "other"]
abbrev s_Plan___eq__ : Stmt := inClass (topS 12) 7
theorem sc_Plan___eq__ : FnScope NN_Plan___eq__ ["self", "other"] (defScope s_Plan___eq__) := ⟨rfl, rfl, rfl, by decide +kernel, rfl, by decide +kernel, by decide +kernel⟩
abbrev NN_is_name : List Str := ["thing", "sign"]
abbrev s_is_name : Stmt := topS 10
theorem sc_is_name : FnScope NN_is_name ["thing"] (defScope s_is_name) := ⟨rfl, rfl, rfl, by decide +kernel, rfl, by decide +kernel, by decide +kernel⟩
abbrev NN_are_lines : List Str := ["thing", "one"]
abbrev s_are_lines : Stmt := topS 11
theorem sc_are_lines : FnScope NN_are_lines ["thing"] (defScope s_are_lines) := ⟨rfl, rfl, rfl, by decide +kernel, rfl, by decide +kernel, by decide +kernel⟩
abbrev NN_Plan___init__ : List Str := ["self", "uprights", "levels", "both"]
abbrev s_Plan___init__ : Stmt := inClass (topS 12) 0
theorem sc_Plan___init__ : FnScope NN_Plan___init__ ["self", "uprights", "levels"] (defScope s_Plan___init__) := ⟨rfl, rfl, rfl, by decide +kernel, rfl, by decide +kernel, by decide +kernel⟩
abbrev NN_Plan_lines : List Str := ["self", "family"]
abbrev s_Plan_lines : Stmt := inClass (topS 12) 3
theorem sc_Plan_lines : FnScope NN_Plan_lines ["self", "family"] (defScope s_Plan_lines) := ⟨rfl, rfl, rfl, by decide +kernel, rfl, by decide +kernel, by decide +kernel⟩
abbrev NN_bound_text : List Str := ["bound"]
abbrev s_bound_text : Stmt := topS 21
theorem sc_bound_text : FnScope NN_bound_text ["bound"] (defScope s_bound_text) := ⟨rfl, rfl, rfl, by decide +kernel, rfl, by decide +kernel, by decide +kernel⟩
abbrev NN_sight_text : List Str := ["sight", "one", "other", "bounds", "bound"]
abbrev s_sight_text : Stmt := topS 23
theorem sc_sight_text : FnScope NN_sight_text ["sight"] (defScope s_sight_text) := ⟨rfl, rfl, rfl, by decide +kernel, rfl, by decide +kernel, by decide +kernel⟩
abbrev NN_number_by : List Str := ["word", "sign"]
abbrev s_number_by : Stmt := topS 16
theorem sc_number_by : FnScope NN_number_by ["word"] (defScope s_number_by) := ⟨rfl, rfl, rfl, by decide +kernel, rfl, by decide +kernel, by decide +kernel⟩
abbrev NN_whole_by : List Str := ["word", "found"]
abbrev s_whole_by : Stmt := topS 20
theorem sc_whole_by : FnScope NN_whole_by ["word"] (defScope s_whole_by) := ⟨rfl, rfl, rfl, by decide +kernel, rfl, by decide +kernel, by decide +kernel⟩
abbrev NN_is_bound_word : List Str := ["word"]
abbrev s_is_bound_word : Stmt := topS 22
theorem sc_is_bound_word : FnScope NN_is_bound_word ["word"] (defScope s_is_bound_word) := ⟨rfl, rfl, rfl, by decide +kernel, rfl, by decide +kernel, by decide +kernel⟩
abbrev NN_read_sight : List Str := ["text", "words", "word"]
abbrev s_read_sight : Stmt := topS 24
theorem sc_read_sight : FnScope NN_read_sight ["text"] (defScope s_read_sight) := ⟨rfl, rfl, rfl, by decide +kernel, rfl, by decide +kernel, by decide +kernel⟩
abbrev NN_aim_text : List Str := ["aim", "line", "far"]
abbrev s_aim_text : Stmt := topS 25
theorem sc_aim_text : FnScope NN_aim_text ["aim"] (defScope s_aim_text) := ⟨rfl, rfl, rfl, by decide +kernel, rfl, by decide +kernel, by decide +kernel⟩
abbrev NN_point_text : List Str := ["point", "aim"]
abbrev s_point_text : Stmt := topS 26
theorem sc_point_text : FnScope NN_point_text ["point"] (defScope s_point_text) := ⟨rfl, rfl, rfl, by decide +kernel, rfl, by decide +kernel, by decide +kernel⟩
abbrev NN_aim_by : List Str := ["word", "line", "plus", "far", "found", "less"]
abbrev s_aim_by : Stmt := topS 27
theorem sc_aim_by : FnScope NN_aim_by ["word"] (defScope s_aim_by) := ⟨rfl, rfl, rfl, by decide +kernel, rfl, by decide +kernel, by decide +kernel⟩
abbrev NN_read_point : List Str := ["text", "words", "found", "word"]
abbrev s_read_point : Stmt := topS 28
theorem sc_read_point : FnScope NN_read_point ["text"] (defScope s_read_point) := ⟨rfl, rfl, rfl, by decide +kernel, rfl, by decide +kernel, by decide +kernel⟩
abbrev NN_plan_text : List Str := ["plan", "at", "head"]
abbrev s_plan_text : Stmt := topS 29
theorem sc_plan_text : FnScope NN_plan_text ["plan"] (defScope s_plan_text) := ⟨rfl, rfl, rfl, by decide +kernel, rfl, by decide +kernel, by decide +kernel⟩
abbrev NN_names_by : List Str := ["row", "head", "word", "names", "name"]
abbrev s_names_by : Stmt := topS 30
theorem sc_names_by : FnScope NN_names_by ["row", "head"] (defScope s_names_by) := ⟨rfl, rfl, rfl, by decide +kernel, rfl, by decide +kernel, by decide +kernel⟩
abbrev NN_read_plan : List Str := ["text", "rows", "last", "found", "row", "head"]
abbrev s_read_plan : Stmt := topS 31
theorem sc_read_plan : FnScope NN_read_plan ["text"] (defScope s_read_plan) := ⟨rfl, rfl, rfl, by decide +kernel, rfl, by decide +kernel, by decide +kernel⟩
abbrev NN__law_begin : List Str := ["script", "cells", "cell"]
abbrev s__law_begin : Stmt := topS 33
theorem sc__law_begin : FnScope NN__law_begin ["script"] (defScope s__law_begin) := ⟨rfl, rfl, rfl, by decide +kernel, rfl, by decide +kernel, by decide +kernel⟩
abbrev NN__law_take : List Str := ["draw", "size", "cells", "at", "cell"]
abbrev s__law_take : Stmt := topS 34
theorem sc__law_take : FnScope NN__law_take ["draw", "size"] (defScope s__law_take) := ⟨rfl, rfl, rfl, by decide +kernel, rfl, by decide +kernel, by decide +kernel⟩
abbrev NN__law_pick : List Str := ["draw", "some"]
abbrev s__law_pick : Stmt := topS 35
theorem sc__law_pick : FnScope NN__law_pick ["draw", "some"] (defScope s__law_pick) := ⟨rfl, rfl, rfl, by decide +kernel, rfl, by decide +kernel, by decide +kernel⟩
abbrev NN__law_names : List Str := ["draw", "many", "own", "found", "k", "word", "some", "sign", "j", "p"]
abbrev s__law_names : Stmt := topS 36
theorem sc__law_names : FnScope NN__law_names ["draw", "many"] (defScope s__law_names) := ⟨rfl, rfl, rfl, by decide +kernel, rfl, by decide +kernel, by decide +kernel⟩
abbrev NN__law_shape : List Str := ["draw", "top", "wide", "high", "names"]
abbrev s__law_shape : Stmt := topS 37
theorem sc__law_shape : FnScope NN__law_shape ["draw", "top"] (defScope s__law_shape) := ⟨rfl, rfl, rfl, by decide +kernel, rfl, by decide +kernel, by decide +kernel⟩
abbrev NN__law_true : List Str := ["draw", "shape", "found", "scale", "lines", "place", "line"]
abbrev s__law_true : Stmt := topS 38
theorem sc__law_true : FnScope NN__law_true ["draw", "shape"] (defScope s__law_true) := ⟨rfl, rfl, rfl, by decide +kernel, rfl, by decide +kernel, by decide +kernel⟩
abbrev NN__law_sight : List Str := ["draw", "shape", "true", "odd", "lines", "first", "second", "apart", "low", "high", "sort"]
abbrev s__law_sight : Stmt := topS 39
theorem sc__law_sight : FnScope NN__law_sight ["draw", "shape", "true", "odd"] (defScope s__law_sight) := ⟨rfl, rfl, rfl, by decide +kernel, rfl, by decide +kernel, by decide +kernel⟩
abbrev NN__law_point : List Str := ["draw", "shape", "true", "found", "lines", "line", "aim", "far"]
abbrev s__law_point : Stmt := topS 40
theorem sc__law_point : FnScope NN__law_point ["draw", "shape", "true"] (defScope s__law_point) := ⟨rfl, rfl, rfl, by decide +kernel, rfl, by decide +kernel, by decide +kernel⟩
abbrev NN__law_bound_text : List Str := ["bound"]
abbrev s__law_bound_text : Stmt := topS 41
theorem sc__law_bound_text : FnScope NN__law_bound_text ["bound"] (defScope s__law_bound_text) := ⟨rfl, rfl, rfl, by decide +kernel, rfl, by decide +kernel, by decide +kernel⟩
abbrev NN__law_sight_text : List Str := ["seen"]
abbrev s__law_sight_text : Stmt := topS 42
theorem sc__law_sight_text : FnScope NN__law_sight_text ["seen"] (defScope s__law_sight_text) := ⟨rfl, rfl, rfl, by decide +kernel, rfl, by decide +kernel, by decide +kernel⟩
abbrev NN__law_aim_text : List Str := ["aim"]
abbrev s__law_aim_text : Stmt := topS 43
theorem sc__law_aim_text : FnScope NN__law_aim_text ["aim"] (defScope s__law_aim_text) := ⟨rfl, rfl, rfl, by decide +kernel, rfl, by decide +kernel, by decide +kernel⟩
abbrev NN__law_point_text : List Str := ["mark"]
abbrev s__law_point_text : Stmt := topS 44
theorem sc__law_point_text : FnScope NN__law_point_text ["mark"] (defScope s__law_point_text) := ⟨rfl, rfl, rfl, by decide +kernel, rfl, by decide +kernel, by decide +kernel⟩
abbrev NN_law : List Str := ["script", "draw", "turn", "shape", "true", "chart", "due", "seen", "written", "mark"]
abbrev s_law : Stmt := topS 45
theorem sc_law : FnScope NN_law ["script"] (defScope s_law) := ⟨rfl, rfl, rfl, by decide +kernel, rfl, by decide +kernel, by decide +kernel⟩

/-! ### names -/
abbrev LET : Str := "abcdefghijklmnopqrstuvwxyz"
theorem sz {n : Nat} (h : n ≤ 100000) : n ≤ sizeLine := Nat.le_trans h (by decide)
theorem szl {n : Nat} (h : n < 100000) : n < sizeLine := Nat.lt_of_lt_of_le h (by decide)
structure IsName (w : Str) : Prop where
  lo : 1 ≤ w.length
  hi : w.length ≤ 8
  let_ : ∀ c ∈ w.cps.toList, c ∈ LET.cps.toList
theorem IsName.ok {w : Str} (h : IsName w) : PyData.strOk w = true := by
  have h2 : ∀ c ∈ LET.cps.toList, c < 0x110000 := by decide +kernel
  unfold PyData.strOk
  rw [Array.all_eq_true_iff_forall_mem]
  intro c hc
  exact decide_eq_true (h2 c (h.let_ c (Array.mem_toList_iff.mpr hc)))
theorem str_shaped {w : Str} (h : PyData.strOk w = true) : SeqAt.shaped (.str w) = true := by simp [SeqAt.shaped, PyData.canLay0, PyData.depth, h]
theorem eqv_str (a b : Str) : PyData.eqv (.str a) (.str b) = decide (a = b) := by
  simp only [PyData.eqv]
  by_cases h : a = b
  · subst h; simp
  · rw [decide_eq_false h]; simpa using h
theorem strs_plain {ws : List Str} (h : ∀ w ∈ ws, PyData.strOk w = true) : plainA (ws.map PyData.str) = true := by
  induction ws with
  | nil => rfl
  | cons w ws ih =>
    simp only [List.map_cons, plainA, plainD, Bool.and_eq_true]
    exact ⟨h w List.mem_cons_self, ih fun z hz => h z (List.mem_cons_of_mem _ hz)⟩
theorem strs_shaped {ws : List Str} (h : ∀ w ∈ ws, PyData.strOk w = true) : SeqAt.shaped (.tuple (ws.map PyData.str)) = true := shaped_plain (by simp only [plainD]; exact strs_plain h) (by
  have h := depthAll_le (n := 0) (xs := ws.map PyData.str) fun x hx => by
    obtain ⟨c, _, rfl⟩ := List.mem_map.mp hx
    simp [PyData.depth]
  simp only [PyData.depth]
  omega)
theorem in_strs (ws : List Str) (w : Str) : (ws.map PyData.str).any (fun z => PyData.eqv z (.str w)) = decide (w ∈ ws) := by
  induction ws with
  | nil => simp
  | cons x ws ih =>
    rw [List.map_cons, List.any_cons, ih, eqv_str, ← Bool.decide_or]
    refine decide_eq_decide.mpr ?_
    rw [List.mem_cons]
    exact ⟨fun h => h.imp Eq.symm id, fun h => h.imp Eq.symm id⟩
theorem ni_strs (ws : List Str) (w : Str) : (!(ws.map PyData.str).any fun z => PyData.eqv z (.str w)) = decide (¬ w ∈ ws) := by rw [in_strs, decide_not]
theorem strs_dats (ws : List Str) : (ws.map fun w => SV.dat (.str w)) = (ws.map PyData.str).map .dat := by rw [List.map_map]; rfl
theorem len_let : LET.length = 26 := by decide +kernel
theorem let_nodup : LET.cps.toList.Nodup := by decide +kernel
theorem str_eq {a b : Str} (h : a.cps.toList = b.cps.toList) : a = b := by
  cases a with
  | mk x => cases b with
    | mk y => congr 1; exact Array.toList_inj.mp h
theorem app_cps (a b : Str) : (a ++ b).cps.toList = a.cps.toList ++ b.cps.toList := by
  show (a.cps ++ b.cps).toList = _
  simp
/-- word[:7] + sign -/
def bentTo (w : Str) (c : Nat) : Str := cutS w none (some 7) ++ ⟨#[c]⟩
theorem bentTo_inj (w : Str) {c d : Nat} (h : bentTo w c = bentTo w d) : c = d := by
  have h1 := congrArg (fun s : Str => s.cps.toList) h
  simp only [bentTo, app_cps, List.append_cancel_left_eq] at h1
  simpa using h1
theorem cut7_cps (w : Str) : (cutS w none (some 7)).cps.toList = w.cps.toList.take 7 := by
  unfold cutS HT.sIx
  simp only [List.drop_zero, Nat.sub_zero]
  rw [if_neg (by decide)]
  show w.cps.toList.take (min 7 w.length) = _
  have : w.length = w.cps.toList.length := by rw [Array.length_toList]; rfl
  rw [this, Nat.min_comm, ← List.take_take]
  exact List.take_of_length_le (by rw [List.length_take]; omega)
theorem cut7_len (w : Str) : (cutS w none (some 7)).length ≤ 7 := by
  show (cutS w none (some 7)).cps.size ≤ 7
  rw [← Array.length_toList, cut7_cps, List.length_take]
  omega
theorem bentTo_name {w : Str} (h : IsName w) {c : Nat} (hc : c ∈ LET.cps.toList) : IsName (bentTo w c) where
  lo := by unfold bentTo; rw [Str.length_append]; show 1 ≤ _ + 1; omega
  hi := by unfold bentTo; rw [Str.length_append]; have := cut7_len w; show _ + 1 ≤ 8; omega
  let_ := fun d hd => by
    unfold bentTo at hd
    rw [app_cps, cut7_cps] at hd
    rcases List.mem_append.mp hd with hd | hd
    · exact h.let_ d (List.mem_of_mem_take hd)
    · have : d = c := by simpa using hd
      rw [this]; exact hc
theorem nodup_len {α : Type} [DecidableEq α] : ∀ (l D : List α), l.Nodup → (∀ x ∈ l, x ∈ D) → l.length ≤ D.length
  | [], _, _, _ => Nat.zero_le _
  | x :: l, D, hn, hs => by
    obtain ⟨h1, h2⟩ := List.nodup_cons.mp hn
    have hx : x ∈ D := hs x List.mem_cons_self
    have ih := nodup_len l (D.erase x) h2 fun y hy => (List.mem_erase_of_ne (fun e : y = x => h1 (by rw [← e]; exact hy))).2 (hs y (List.mem_cons_of_mem _ hy))
    have e := List.length_erase_of_mem hx
    have hp : 0 < D.length := List.length_pos_of_mem hx
    rw [List.length_cons]
    omega
/-- more unlike ones than there are -/
theorem one_left {α : Type} [DecidableEq α] {xs ys : List α} (hn : xs.Nodup) (hl : ys.length < xs.length) : (xs.filter fun x => decide (¬ x ∈ ys)) ≠ [] := fun e => by
  have h : ∀ x ∈ xs, x ∈ ys := fun x hx => by
    by_cases h : x ∈ ys
    · exact h
    · have : x ∈ xs.filter fun x => decide (¬ x ∈ ys) := List.mem_filter.mpr ⟨hx, decide_eq_true h⟩
      rw [e] at this
      cases this
  have := nodup_len xs ys hn h
  omega
theorem join1 (cs : List Nat) : (PySem.Txt.join "" (cs.map fun c => (⟨#[c]⟩ : Str))).cps.toList = cs := by
  have e : PySem.Txt.join "" (cs.map fun c => (⟨#[c]⟩ : Str)) = Str.join "" (cs.map fun c => (⟨#[c]⟩ : Str)) := PySem.StrLaws.glued_eq_join _ _
  rw [e]
  clear e
  induction cs with
  | nil => rfl
  | cons c cs ih =>
    cases cs with
    | nil => rfl
    | cons d cs =>
      rw [List.map_cons, List.map_cons, PyProof.Rows.join_cons_cons, app_cps, app_cps]
      rw [List.map_cons] at ih
      rw [ih]
      rfl
theorem sum1 (cs : List Nat) : (((cs.map fun c => (⟨#[c]⟩ : Str)).map (·.length)).sum) = cs.length := by
  induction cs with
  | nil => rfl
  | cons c cs ih =>
    simp only [List.map_cons, List.sum_cons, List.length_cons, ih]
    show 1 + cs.length = _
    omega

def isNameB (w : Str) : Bool := decide (1 ≤ w.length) && decide (w.length ≤ 8) && w.cps.toList.all fun c => decide (c ∈ LET.cps.toList)
theorem isName_of {w : Str} (h : isNameB w = true) : IsName w := by
  simp only [isNameB, Bool.and_eq_true, decide_eq_true_eq, List.all_eq_true] at h
  exact ⟨h.1.1, h.1.2, h.2⟩
def OWN : List Str := ["ask", "far", "map", "words", "none", "one", "open", "what", "ok", "key", "plan", "sight", "bring", "title"]
theorem own_names : ∀ w ∈ OWN, IsName w := fun w hw => isName_of (List.all_eq_true.mp (show OWN.all isNameB = true by decide +kernel) w hw)
theorem some_bent (w : Str) {ws : List Str} (h : ws.length < 26) : (LET.cps.toList.filter fun c => decide (¬ bentTo w c ∈ ws)) ≠ [] := fun e => by
  have h1 : (LET.cps.toList.map (bentTo w)).Nodup := List.Pairwise.map _ (fun a b hab e => hab (bentTo_inj w e)) let_nodup
  have h2 : (LET.cps.toList.map (bentTo w)).length = 26 := by rw [List.length_map, Array.length_toList]; exact len_let
  refine one_left h1 (by omega : ws.length < _) ?_
  rw [List.filter_map]
  have : ((fun x => decide (¬ x ∈ ws)) ∘ bentTo w) = fun c => decide (¬ bentTo w c ∈ ws) := rfl
  rw [this, e]
  rfl

structure Shape (a b : List Str) : Prop where
  a2 : 2 ≤ a.length
  a8 : a.length ≤ 8
  b2 : 2 ≤ b.length
  b8 : b.length ≤ 8
  nd : (a ++ b).Nodup
  nm : ∀ w ∈ a ++ b, IsName w
def shapeD (a b : List Str) : PyData := .tuple [.list (a.map .str), .list (b.map .str)]
theorem cut_take {α : Type} {xs : List α} {n : Int} (h0 : 0 ≤ n) (h1 : n ≤ xs.length) : cutD xs none (some n) = xs.take n.toNat := by
  unfold cutD
  simp only [HT.sIx, List.drop_zero, Nat.sub_zero, if_neg (show ¬ n < 0 by omega)]
  congr 1
  omega
theorem cut_drop {α : Type} {xs : List α} {n : Int} (h0 : 0 ≤ n) (h1 : n ≤ xs.length) : cutD xs (some n) none = xs.drop n.toNat := by
  unfold cutD
  have e : min n.toNat xs.length = n.toNat := by omega
  simp only [HT.sIx, if_neg (show ¬ n < 0 by omega), e]
  exact List.take_of_length_le (by rw [List.length_drop]; exact Nat.le_refl _)
abbrev dkOf (L : List (Str × Int)) : List (Key × SV) := L.map fun q => (.inr q.1, .dat (.int q.2))
theorem putS_new {L : List (Str × Int)} {x : Str} {v : SV} (h : ¬ x ∈ L.map (·.1)) : putS (dkOf L) (.inr x) v = dkOf L ++ [(.inr x, v)] := by
  unfold putS
  rw [if_neg]
  intro e
  obtain ⟨kv, hk, he⟩ := List.any_eq_true.mp e
  obtain ⟨q, hq, rfl⟩ := List.mem_map.mp hk
  have he := of_decide_eq_true he
  have e2 : q.1 = x := Sum.inr.inj he
  exact h (List.mem_map.mpr ⟨q, hq, e2⟩)
def valOf (L : List (Str × Int)) (w : Str) : Int := (L.lookup w).getD 0
theorem valOf_cons {q : Str × Int} {L : List (Str × Int)} {w : Str} : valOf (q :: L) w = if w = q.1 then q.2 else valOf L w := by
  unfold valOf
  rw [List.lookup_cons]
  by_cases h : w = q.1
  · rw [if_pos h, h]; simp
  · have hb : (w == q.1) = false := beq_eq_false_iff_ne.mpr h
    rw [if_neg h, hb]
theorem val_keys : ∀ {L : List (Str × Int)}, (L.map (·.1)).Nodup → L = (L.map (·.1)).map fun w => (w, valOf L w)
  | [], _ => rfl
  | q :: L, h => by
    rw [List.map_cons, List.nodup_cons] at h
    have ih := val_keys h.2
    rw [List.map_cons, List.map_cons, valOf_cons, if_pos rfl]
    congr 1
    refine ih.trans (List.map_congr_left fun w hw => ?_)
    rw [valOf_cons, if_neg fun e => h.1 (by rw [← e]; exact hw)]
theorem val_app {L M : List (Str × Int)} {w : Str} (h : ¬ w ∈ M.map (·.1)) : valOf (L ++ M) w = valOf L w := by
  induction L with
  | nil =>
    have : valOf M w = 0 := by
      revert h
      induction M with
      | nil => exact fun _ => rfl
      | cons q M ih =>
        intro h
        rw [List.map_cons, List.mem_cons, not_or] at h
        rw [valOf_cons, if_neg h.1]
        exact ih h.2
    rw [List.nil_append, this]
    rfl
  | cons q L ih => rw [List.cons_append, valOf_cons, valOf_cons, ih]
theorem val_app2 {L M : List (Str × Int)} {w : Str} (h : ¬ w ∈ L.map (·.1)) : valOf (L ++ M) w = valOf M w := by
  induction L with
  | nil => rfl
  | cons q L ih =>
    rw [List.map_cons, List.mem_cons, not_or] at h
    rw [List.cons_append, valOf_cons, if_neg h.1, ih h.2]
/-- the places of a family's lines: rising, small -/
structure Rise (g : Str → Int) (ws : List Str) : Prop where
  up : (ws.map g).Pairwise (· < ·)
  lo : ∀ w ∈ ws, 0 ≤ g w
  hi : ∀ w ∈ ws, g w ≤ 900000000
theorem Rise.congr {g h : Str → Int} {ws : List Str} (e : ∀ w ∈ ws, g w = h w) (r : Rise g ws) : Rise h ws where
  up := by rw [← List.map_congr_left e]; exact r.up
  lo := fun w hw => by rw [← e w hw]; exact r.lo w hw
  hi := fun w hw => by rw [← e w hw]; exact r.hi w hw
/-- what is drawn of one family -/
structure Fam (M : List (Str × Int)) (pl : Int) : Prop where
  up : (M.map (·.2)).Pairwise (· < ·)
  lo : ∀ q ∈ M, 0 ≤ q.2
  hi : ∀ q ∈ M, q.2 < pl
  top : pl ≤ M.length * 110000001
  p0 : 0 ≤ pl
theorem Fam.nil : Fam [] 0 := ⟨.nil, by simp, by simp, by simp, by simp⟩
theorem Fam.snoc {M : List (Str × Int)} {pl z : Int} {w : Str} (h : Fam M pl) (h0 : 0 ≤ z) (h1 : z ≤ 110000000) : Fam (M ++ [(w, pl)]) (pl + 1 + z) where
  up := by
    rw [List.map_append]
    refine List.pairwise_append.mpr ⟨h.up, by simp, fun x hx y hy => ?_⟩
    obtain ⟨q, hq, rfl⟩ := List.mem_map.mp hx
    have : y = pl := by simpa using hy
    rw [this]
    exact h.hi q hq
  lo := fun q hq => by
    rcases List.mem_append.mp hq with hq | hq
    · exact h.lo q hq
    · rw [List.mem_singleton.mp hq]; exact h.p0
  hi := fun q hq => by
    rcases List.mem_append.mp hq with hq | hq
    · have := h.hi q hq; omega
    · rw [List.mem_singleton.mp hq]; simp only; omega
  top := by have := h.top; simp only [List.length_append, List.length_cons, List.length_nil]; omega
  p0 := by have := h.p0; omega
theorem Fam.rise {M : List (Str × Int)} {pl : Int} (h : Fam M pl) (hl : M.length ≤ 8) (hnd : (M.map (·.1)).Nodup) : Rise (valOf M) (M.map (·.1)) := by
  have e := val_keys hnd
  have e2 : (M.map (·.1)).map (valOf M) = M.map (·.2) := by
    have := congrArg (List.map Prod.snd) e
    rw [List.map_map] at this
    exact this.symm
  have hv : ∀ w ∈ M.map (·.1), ∃ q ∈ M, valOf M w = q.2 := fun w hw => by
    have : valOf M w ∈ M.map (·.2) := by rw [← e2]; exact List.mem_map.mpr ⟨w, hw, rfl⟩
    obtain ⟨q, hq, z⟩ := List.mem_map.mp this
    exact ⟨q, hq, z.symm⟩
  refine ⟨by rw [e2]; exact h.up, fun w hw => ?_, fun w hw => ?_⟩
  · obtain ⟨q, hq, z⟩ := hv w hw
    rw [z]; exact h.lo q hq
  · obtain ⟨q, hq, z⟩ := hv w hw
    rw [z]
    have h1 := h.hi q hq
    have h2 := h.top
    omega

theorem look_map {g : Str → Int} {ws : List Str} {w : Str} (h : w ∈ ws) : lookS (ws.map fun w => ((.inr w, .dat (.int (g w))) : Key × SV)) (.inr w) = some (.dat (.int (g w))) := by
  induction ws with
  | nil => cases h
  | cons x ws ih =>
    unfold lookS at ih ⊢
    rw [List.map_cons, List.find?_cons]
    by_cases e : x = w
    · subst e
      simp
    · have hx : decide ((Sum.inr x : Key) = .inr w) = false := decide_eq_false fun z => e (Sum.inr.inj z)
      simp only [hx]
      refine ih ?_
      rcases List.mem_cons.mp h with h | h
      · exact absurd h.symm e
      · exact h

/-! ### the draws -/
def drawL (q : Addr) (a m : Int) : List SV := [.ptr q, .dat (.int a), .dat (.int m)]
def drawOk (q : Addr) (cs : List Cell) : Prop := ∃ (ns : List Int) (a m : Int), cs = [.lst (drawL q a m), .lst (ns.map fun n => .dat (.int n))] ∧ ns ≠ [] ∧ ns.length ≤ 63 ∧ (∀ n ∈ ns, 0 ≤ n) ∧ 0 ≤ a ∧ 0 ≤ m ∧ m < 2147483647
abbrev drawB (K : PySem.W.Frag) (p q : Addr) : Blk := Blk.of K [p, q] (drawOk q)
abbrev isDraw (K : PySem.W.Frag) (A : Amb) (p : Addr) : Prop := ∃ q, A.I = drawB K p q
theorem ints_dats (ns : List Int) : (ns.map fun n => SV.dat (.int n)) = (ns.map PyData.int).map .dat := by rw [List.map_map]; rfl
theorem getD_at {ns : List Int} {i : Nat} (h : i < ns.length) : ns[i]? = some (ns.getD i 0) := by
  rw [List.getD_eq_getElem?_getD, List.getElem?_eq_getElem h]
  rfl
theorem log_small {j : Int} (h0 : 0 < j) (h : j < 1099511627776) : CDivW 0 j := wide_div h0 (b := 40) (by omega) (by decide) (by decide)
theorem ints_shapedL (ns : List Int) : SeqAt.shaped (.list (ns.map PyData.int)) = true := shaped_plain (by simp only [plainD]; exact plainA_map (fun _ => rfl) ns) (by
  have h := depthAll_le (n := 0) (xs := ns.map PyData.int) fun x hx => by
    obtain ⟨c, _, rfl⟩ := List.mem_map.mp hx
    simp [PyData.depth]
  simp only [PyData.depth]
  omega)
theorem cut_all {α : Type} {xs : List α} {n : Int} (h : xs.length ≤ n) : cutD xs none (some n) = xs := by
  refine cut_whole ⟨rfl, ?_⟩
  simp only [HT.sIx]
  rw [if_neg (by omega)]
  omega
theorem set_mem {ns : List Int} {i : Nat} {z : Int} (h : ∀ n ∈ ns, 0 ≤ n) (hz : 0 ≤ z) : ∀ n ∈ ns.set i z, 0 ≤ n := fun n hn => by
  rcases List.mem_or_eq_of_mem_set hn with hn | rfl
  · exact h n hn
  · exact hz

/-! ### the program's plans -/
def famsD (a b : List Str) : PyData := .tuple [.tuple (a.map .str), .tuple (b.map .str)]
abbrev planF (a b : List Str) : List (Str × SV) := [("families", .dat (famsD a b))]
def isPlan (C : Addr) (A : Amb) (p : Addr) (a b : List Str) : Prop := ∃ dx, (p, Cell.ins C dx (planF a b)) ∈ A.cells
def isNum (d : PyData) (lo hi : Int) : Bool := match d with
  | .int i => decide (lo ≤ i) && decide (i ≤ hi)
  | _ => false
theorem all_true {α : Type} (xs : List α) : (xs.map fun _ => true).all id = true := by simp

/-! ### sights -/
def isBound (d : PyData) : Bool := isNone d || isNum d (-1000000000) 1000000000
def sightB (a b : List Str) : PyData → Bool
  | .tuple [.str x, .str y, l, h] => !decide (x = y) && ((decide (x ∈ a) && decide (y ∈ a)) || (decide (x ∈ b) && decide (y ∈ b))) && (isBound l && isBound h) && !(isNone l && isNone h)
  | _ => false
theorem four (d : PyData) : (∃ x y l h, d = .tuple [x, y, l, h]) ∨ isK "tuple" d = false ∨ ∃ ds, d = .tuple ds ∧ ds.length ≠ 4 := by
  cases d with
  | tuple ds =>
    match ds with
    | [x, y, l, h] => exact .inl ⟨x, y, l, h, rfl⟩
    | [] => exact .inr (.inr ⟨_, rfl, by simp⟩)
    | [_] => exact .inr (.inr ⟨_, rfl, by simp⟩)
    | [_, _] => exact .inr (.inr ⟨_, rfl, by simp⟩)
    | [_, _, _] => exact .inr (.inr ⟨_, rfl, by simp⟩)
    | _ :: _ :: _ :: _ :: _ :: _ => exact .inr (.inr ⟨_, rfl, by simp⟩)
  | _ => exact .inr (.inl (by simp [isK, PyData.isTuple]))
theorem isStr_or (d : PyData) : (∃ z, d = .str z) ∨ isK "str" d = false := by
  cases d with
  | str z => exact .inl ⟨z, rfl⟩
  | _ => exact .inr (by simp [isK, PyData.isStr])
theorem sight_no {a b : List Str} {d : PyData} (h : isK "tuple" d = false ∨ ∃ ds, d = .tuple ds ∧ ds.length ≠ 4) : sightB a b d = false := by
  unfold sightB
  split
  · rcases h with h | ⟨ds, e, h⟩
    · simp [isK, PyData.isTuple] at h
    · cases e
      simp at h
  · rfl
theorem sight_noS {a b : List Str} {x y l h : PyData} (hs : isK "str" x = false ∨ isK "str" y = false) : sightB a b (.tuple [x, y, l, h]) = false := by
  unfold sightB
  split
  · rename_i e
    cases e
    rcases hs with hs | hs <;> simp [isK, PyData.isStr] at hs
  · rfl
theorem bound_shaped {d : PyData} (h : isBound d = true) : plainD d = true ∧ d.depth = 0 := by
  cases d <;> simp_all [isBound, isNone, isNum, plainD, PyData.depth]
theorem bounds_shaped {l h : PyData} (h1 : isBound l = true) (h2 : isBound h = true) : SeqAt.shaped (.list [l, h]) = true := by
  obtain ⟨a1, a2⟩ := bound_shaped h1
  obtain ⟨b1, b2⟩ := bound_shaped h2
  exact shaped_plain (by simp [plainD, plainA, a1, b1]) (by simp [PyData.depth, PyData.depthAll, a2, b2])
theorem bounds_ne {l h : PyData} (h1 : isBound l = true) (h2 : isBound h = true) : (!PyData.eqv (.list [l, h]) (.list [.none, .none])) = !(isNone l && isNone h) := by
  cases l <;> cases h <;> simp_all [isBound, isNone, isNum, PyData.eqv, PyData.eqvAll]
abbrev famOf (a b : List Str) (n : Nat) : List Str := if n = 0 then a else b
/-- fine, so wide and so deep at most -/
structure F1 (W D : Nat) (d : PyData) : Prop where
  fine : fineD d = true
  wide : wideD d ≤ W
  deep : d.depth ≤ D
theorem F1.mono {W D W' D' : Nat} {d : PyData} (h : F1 W D d) (hw : W ≤ W') (hd : D ≤ D') : F1 W' D' d := ⟨h.fine, Nat.le_trans h.wide hw, Nat.le_trans h.deep hd⟩
theorem wideA_le {n : Nat} : ∀ {xs : List PyData}, (∀ x ∈ xs, wideD x ≤ n) → wideA xs ≤ xs.length * (n + 2)
  | [], _ => by simp [wideA]
  | x :: xs, h => by
    have h1 := h x List.mem_cons_self
    have h2 := wideA_le (xs := xs) fun y hy => h y (List.mem_cons_of_mem _ hy)
    simp only [wideA, List.length_cons, Nat.succ_mul]
    omega
theorem F1.tup {W D n : Nat} {ds : List PyData} (h : ∀ d ∈ ds, F1 W D d) (hl : ds.length ≤ n) : F1 (n * (W + 2) + 3) (D + 1) (.tuple ds) where
  fine := by simp only [fineD]; exact fineA_mem.mpr fun d hd => (h d hd).fine
  wide := by
    have h1 := wideA_le (n := W) (xs := ds) fun d hd => (h d hd).wide
    have h2 := Nat.mul_le_mul_right (W + 2) hl
    simp only [wideD]
    omega
  deep := by
    have h1 := depthAll_le (n := D) (xs := ds) fun d hd => (h d hd).deep
    simp only [PyData.depth]
    omega
theorem F1.lst {W D n : Nat} {ds : List PyData} (h : ∀ d ∈ ds, F1 W D d) (hl : ds.length ≤ n) : F1 (n * (W + 2) + 3) (D + 1) (.list ds) where
  fine := by simp only [fineD]; exact fineA_mem.mpr fun d hd => (h d hd).fine
  wide := by
    have h1 := wideA_le (n := W) (xs := ds) fun d hd => (h d hd).wide
    have h2 := Nat.mul_le_mul_right (W + 2) hl
    simp only [wideD]
    omega
  deep := by
    have h1 := depthAll_le (n := D) (xs := ds) fun d hd => (h d hd).deep
    simp only [PyData.depth]
    omega
def f1B (W D : Nat) (d : PyData) : Bool := fineD d && decide (wideD d ≤ W) && decide (d.depth ≤ D)
theorem f1_of {W D : Nat} {d : PyData} (h : f1B W D d = true) : F1 W D d := by
  simp only [f1B, Bool.and_eq_true, decide_eq_true_eq] at h
  exact ⟨h.1.1, h.1.2, h.2⟩
theorem f1_all {W D : Nat} {ds : List PyData} (h : ds.all (f1B W D) = true) : ∀ d ∈ ds, F1 W D d := fun d hd => f1_of (List.all_eq_true.mp h d hd)
theorem f1_name {w : Str} (h : IsName w) : F1 82 0 (.str w) where
  fine := by simp only [fineD]; exact h.ok
  wide := by have := h.hi; simp only [wideD]; omega
  deep := by simp [PyData.depth]
theorem cutD_mem {α : Type} {xs : List α} {lo hi : Option Int} {x : α} (h : x ∈ cutD xs lo hi) : x ∈ xs := List.mem_of_mem_drop (List.mem_of_mem_take h)
theorem cutD_len {α : Type} (xs : List α) (lo hi : Option Int) : (cutD xs lo hi).length ≤ xs.length := by
  unfold cutD
  rw [List.length_take, List.length_drop]
  omega
theorem fine_str {z : Str} (h : fineD (.str z) = true) : PyData.strOk z = true := by simpa [fineD] using h
/-- a list and a dict don't stand together -/
def oneKind (d : PyData) : Prop := d.hasDict = true → noLst d = true
theorem nd_tup {ds : List PyData} (h : ∀ d ∈ ds, d.hasDict = false) : PyData.hasDictAll ds = false := by
  induction ds with
  | nil => simp [PyData.hasDictAll]
  | cons d ds ih => simp [PyData.hasDictAll, h d List.mem_cons_self, ih fun e he => h e (List.mem_cons_of_mem _ he)]
theorem nl_tup {ds : List PyData} (h : ∀ d ∈ ds, noLst d = true) : noLstA ds = true := by
  induction ds with
  | nil => simp [noLstA]
  | cons d ds ih => simp [noLstA, h d List.mem_cons_self, ih fun e he => h e (List.mem_cons_of_mem _ he)]
/-- flat: neither a list nor a dict within -/
def flat2 (d : PyData) : Prop := d.hasDict = false ∧ noLst d = true
theorem kind_of_flat {ds : List PyData} (h : ∀ d ∈ ds, flat2 d) : oneKind (.tuple ds) := fun z => by
  simp only [PyData.hasDict] at z
  rw [nd_tup fun d hd => (h d hd).1] at z
  cases z
/-- one odd thing among flat ones -/
theorem kind_mix {xs ys : List PyData} {w : PyData} (h1 : ∀ d ∈ xs, flat2 d) (h2 : ∀ d ∈ ys, flat2 d) (hw : oneKind w) : oneKind (.tuple (xs ++ [w] ++ ys)) := fun z => by
  simp only [noLst]
  refine nl_tup fun d hd => ?_
  rcases List.mem_append.mp hd with hd | hd
  · rcases List.mem_append.mp hd with hd | hd
    · exact (h1 d hd).2
    · rw [List.mem_singleton.mp hd]
      refine hw ?_
      cases hwd : w.hasDict with
      | true => rfl
      | false =>
        simp only [PyData.hasDict] at z
        rw [nd_tup (ds := xs ++ [w] ++ ys) fun e he => by
          rcases List.mem_append.mp he with he | he
          · rcases List.mem_append.mp he with he | he
            · exact (h1 e he).1
            · rw [List.mem_singleton.mp he]; exact hwd
          · exact (h2 e he).1] at z
        cases z
  · exact (h2 d hd).2
theorem flat_str (z : Str) : flat2 (.str z) := ⟨by simp [PyData.hasDict], by simp [noLst]⟩
theorem kind_flat {d : PyData} (h : flat2 d) : oneKind d := fun z => by rw [h.1] at z; cases z
theorem flat_tup {ds : List PyData} (h : ∀ d ∈ ds, flat2 d) : flat2 (.tuple ds) := ⟨by simp only [PyData.hasDict]; exact nd_tup fun d hd => (h d hd).1, by simp only [noLst]; exact nl_tup fun d hd => (h d hd).2⟩
/-- a sight's bound -/
def bndD : Option Int → PyData
  | none => .none
  | some i => .int i
structure Sighted (a b : List Str) (g : Str → Int) (odd : Int) (x y : Str) (lo hi : Option Int) : Prop where
  fam : (x ∈ a ∧ y ∈ a) ∨ (x ∈ b ∧ y ∈ b)
  ne : x ≠ y
  some_ : ¬(lo = none ∧ hi = none)
  lob : ∀ i, lo = some i → -900000100 ≤ i ∧ i ≤ 900000100
  hib : ∀ i, hi = some i → -900000100 ≤ i ∧ i ≤ 900000100
  los : odd = 0 → ∀ i, lo = some i → i ≤ g y - g x
  his : odd = 0 → ∀ i, hi = some i → g y - g x ≤ i
theorem f1_bnd {o : Option Int} (h : ∀ i, o = some i → -900000100 ≤ i ∧ i ≤ 900000100) : F1 101 0 (bndD o) := by
  cases o with
  | none => exact f1_of (by decide)
  | some i =>
    have h1 := h i rfl
    refine ⟨?_, by simp [bndD, wideD], by simp [bndD, PyData.depth]⟩
    simp only [bndD, fineD, decide_eq_true_eq]
    have : (10 : Nat) ^ 10 ≤ 10 ^ 100 := Nat.pow_le_pow_right (by decide) (by decide)
    omega
theorem nodup_ne {ws : List Str} (h : ws.Nodup) {i j : Nat} {x y : Str} (hx : ws[i]? = some x) (hy : ws[j]? = some y) (n : i ≠ j) : x ≠ y := fun e => by
  subst e
  exact n ((List.getElem?_inj (List.getElem?_eq_some_iff.mp hx).1 h).mp (hx.trans hy.symm))

theorem isNone_eq {d : PyData} (h : isNone d = true) : d = .none := by cases d <;> simp_all [isNone]
theorem sight_noB {a b : List Str} {x y l h : PyData} (hs : isBound l = false ∨ isBound h = false ∨ (isNone l && isNone h) = true) : sightB a b (.tuple [x, y, l, h]) = false := by
  unfold sightB
  split
  · rename_i e
    cases e
    rcases hs with hs | hs | hs <;> rw [hs] <;> simp
  · rfl
theorem atI_last {α : Type} {xs : List α} (h : xs ≠ []) : atI xs (-1) = some (xs.getLast h) := by
  have hp : 0 < xs.length := List.length_pos_iff.mpr h
  have e : ixN xs.length (-1) = some (xs.length - 1) := by
    unfold ixN
    rw [if_neg (by decide), if_pos (by omega)]
    congr 1
    omega
  unfold atI
  rw [e, List.getLast_eq_getElem]
  exact List.getElem?_eq_getElem (by omega)
theorem sight_eq (a b : List Str) (x y : Str) (l h : PyData) : sightB a b (.tuple [.str x, .str y, l, h]) = (!decide (x = y) && ((decide (x ∈ a) && decide (y ∈ a)) || (decide (x ∈ b) && decide (y ∈ b))) && (isBound l && isBound h) && !(isNone l && isNone h)) := rfl
def ODD6 : List PyData := [.none, .bool true, .bool false, .int 5, .str "", .str "zz", .str "Zz", .int 1000000000, .int 1000000001, .int (-1000000000), .int (-1000000001), .tuple [], .list [], .dict [], .int 0]
theorem odd6 : ∀ d ∈ ODD6, F1 200 1 d := f1_all (by decide +kernel)
theorem kind6 : ∀ d ∈ ODD6, oneKind d := fun d hd h => by
  have := List.all_eq_true.mp (show ODD6.all (fun d => !d.hasDict || noLst d) = true by decide +kernel) d hd
  rw [h] at this
  simpa using this
theorem flat_bnd (o : Option Int) : flat2 (bndD o) := by cases o <;> exact ⟨by simp [bndD, PyData.hasDict], by simp [bndD, noLst]⟩
def strsIn (a b : List Str) (x y : Str) : List (List Str) := [a, b].filter fun ws => decide (x ∈ ws) && decide (y ∈ ws)
def linD (ws : List Str) : PyData := .list (ws.map .str)
theorem lin_plain {ws : List Str} (h : ∀ w ∈ ws, IsName w) : plainD (linD ws) = true ∧ (linD ws).depth ≤ 1 := by
  refine ⟨by simp only [linD, plainD]; exact strs_plain fun w hw => (h w hw).ok, ?_⟩
  have h := depthAll_le (n := 0) (xs := ws.map PyData.str) fun x hx => by
    obtain ⟨c, _, rfl⟩ := List.mem_map.mp hx
    simp [PyData.depth]
  simp only [linD, PyData.depth]
  omega
theorem lins_shaped {ls : List (List Str)} (h : ∀ ws ∈ ls, ∀ w ∈ ws, IsName w) : SeqAt.shaped (.list (ls.map linD)) = true := shaped_plain (by
  simp only [plainD]
  exact plainA_mem.mpr fun x hx => by
    obtain ⟨ws, hw, rfl⟩ := List.mem_map.mp hx
    exact (lin_plain (h ws hw)).1) (by
  have h := depthAll_le (n := 1) (xs := ls.map linD) fun x hx => by
    obtain ⟨ws, hw, rfl⟩ := List.mem_map.mp hx
    exact (lin_plain (h ws hw)).2
  simp only [PyData.depth]
  omega)
theorem ne_nil_eqv (xs : List PyData) : (!PyData.eqv (.list xs) (.list [])) = !xs.isEmpty := by
  cases xs <;> simp [PyData.eqv, PyData.eqvAll]
theorem strsIn_ne (a b : List Str) (x y : Str) : (!((strsIn a b x y).map linD).isEmpty) = ((decide (x ∈ a) && decide (y ∈ a)) || (decide (x ∈ b) && decide (y ∈ b))) := by
  unfold strsIn
  cases h1 : (decide (x ∈ a) && decide (y ∈ a)) <;> cases h2 : (decide (x ∈ b) && decide (y ∈ b)) <;> simp [List.filter, h1, h2]

abbrev ptD (q : Str × Int) : PyData := .tuple [.str q.1, .int q.2]
structure PtOk (ws : List Str) (q : Str × Int) : Prop where
  mem : q.1 ∈ ws
  lo : -1000000000 ≤ q.2
  hi : q.2 ≤ 1000000000

/-! ### words of numbers -/
def decS (i : Int) : Str := Str.ofString (toString i)
def numS (n : Nat) : Str := decS (n : Int)
theorem tl_numS (n : Nat) : TL.tl (numS n) = TL.numL n := TL.tl_num n
theorem dec_pos {i : Int} (h : 0 ≤ i) : decS i = numS i.toNat := by unfold numS; rw [Int.toNat_of_nonneg h]
theorem tl_dec_neg {i : Int} (h : i < 0) : TL.tl (decS i) = 45 :: TL.numL i.natAbs := by
  cases i with
  | ofNat n => exact absurd h (Int.not_lt.mpr (Int.natCast_nonneg n))
  | negSucc m =>
    have e : toString (Int.negSucc m) = "-" ++ toString ((m + 1 : Nat) : Int) := rfl
    have e2 := TL.tl_num (m + 1)
    rw [TL.tl_ofString] at e2
    unfold decS
    rw [e, TL.tl_ofString, String.toList_append, List.map_append, e2]
    rfl
theorem numL_head (n : Nat) : 0 < n → ∃ c cs, TL.numL n = c :: cs ∧ c ≠ 48 := by
  induction n using Nat.strongRecOn with
  | _ n ih =>
    intro h0
    by_cases h : n < 10
    · exact ⟨48 + n, [], TL.numL_lt h, by omega⟩
    · obtain ⟨c, cs, e, hc⟩ := ih (n / 10) (by omega) (by omega)
      exact ⟨c, cs ++ [48 + n % 10], by rw [TL.numL_step (by omega), e]; rfl, hc⟩
abbrev BIG : Nat := 1000000000000000000000000000000
theorem num_len {n : Nat} (h : n < BIG) : 1 ≤ (numS n).length ∧ (numS n).length ≤ 30 := by
  rw [TL.len_tl, tl_numS]
  exact ⟨List.length_pos_iff.mpr (TL.numL_ne n), TL.numL_len (k := 30) (by decide) h⟩
theorem fig_mem {c : Nat} (h : 48 ≤ c ∧ c ≤ 57) : c ∈ ("0123456789" : Str).cps.toList := by
  have e : ("0123456789" : Str).cps.toList = [48, 49, 50, 51, 52, 53, 54, 55, 56, 57] := by decide +kernel
  rw [e]
  simp only [List.mem_cons, List.not_mem_nil, or_false]
  omega
theorem num_int {n : Nat} (h : n < BIG) : PySem.intText? (numS n) = some (n : Int) := TL.int_num (by have := (num_len h).2; rw [TL.len_tl, tl_numS] at this; omega)
def numO : Option Nat → Str
  | none => ""
  | some n => numS n
def numOD : Option Nat → PyData
  | none => .none
  | some n => .int n
def bndS : Option Int → Str
  | none => "-"
  | some i => decS i
def smallO (o : Option Int) : Prop := ∀ i, o = some i → i.natAbs < BIG
theorem dec_len {i : Int} (h : i.natAbs < BIG) : 1 ≤ (decS i).length ∧ (decS i).length ≤ 31 := by
  by_cases h0 : 0 ≤ i
  · rw [dec_pos h0]
    have := num_len (n := i.toNat) (by omega)
    omega
  · rw [TL.len_tl, tl_dec_neg (by omega), List.length_cons]
    have := TL.numL_len (k := 30) (n := i.natAbs) (by decide) h
    omega
theorem bnd_len {o : Option Int} (h : smallO o) : (bndS o).length ≤ 31 := by
  cases o with
  | none => decide +kernel
  | some i => exact (dec_len (h i rfl)).2
theorem dec_free {i : Int} {s : Nat} (h : s < 45 ∨ 57 < s) : s ∉ TL.tl (decS i) := by
  by_cases h0 : 0 ≤ i
  · rw [dec_pos h0, tl_numS]
    exact TL.numL_free (by omega)
  · rw [tl_dec_neg (by omega)]
    intro hm
    rcases List.mem_cons.mp hm with hm | hm
    · omega
    · exact TL.numL_free (by omega) hm
theorem bnd_free {o : Option Int} : 32 ∉ TL.tl (bndS o) := by
  cases o with
  | none =>
    have e : TL.tl (bndS none) = [45] := by decide +kernel
    rw [e]; decide
  | some i => exact dec_free (by decide)
theorem name_free {w : Str} (h : IsName w) {s : Nat} (hs : s < 97) : s ∉ TL.tl w := fun hm => by
  have h2 : ∀ c ∈ LET.cps.toList, 97 ≤ c := by decide +kernel
  have := h2 s (h.let_ s hm)
  omega
theorem tl_sp : TL.tl (" " : Str) = [32] := by decide +kernel
theorem sp_256 : (" " : Str).cps.all (· < 256) = true := by decide +kernel
theorem len_join2 {a b : Str} : (Txt.join " " [a, b]).length = a.length + b.length + 1 := by
  rw [TL.len_tl, TL.join_eq, TL.tl_join, tl_sp]
  simp only [List.map_cons, List.map_nil, TL.joinL, List.length_append, List.length_cons, List.length_nil, TL.len_tl]
  omega
def sightS (a b : Str) (lo hi : Option Int) : Str := Txt.join " " [a, b, bndS lo, bndS hi]
theorem sight_split {a b : Str} {lo hi : Option Int} (ha : IsName a) (hb : IsName b) : Txt.split (sightS a b lo hi) " " = [a, b, bndS lo, bndS hi] := TL.split_join tl_sp sp_256 (by simp) fun p hp => by
  simp only [List.mem_cons, List.not_mem_nil, or_false] at hp
  rcases hp with rfl | rfl | rfl | rfl
  · exact name_free ha (by decide)
  · exact name_free hb (by decide)
  · exact bnd_free
  · exact bnd_free
theorem sight_cat (a b : Str) (lo hi : Option Int) : (((((a ++ " ") ++ b) ++ " ") ++ bndS lo) ++ " ") ++ bndS hi = sightS a b lo hi := TL.ext_tl (by
  unfold sightS
  rw [TL.join_eq, TL.tl_join]
  simp only [TL.tl_append, List.map_cons, List.map_nil, TL.joinL, List.append_assoc])
theorem sight_len {a b : Str} {lo hi : Option Int} (ha : IsName a) (hb : IsName b) (hlo : smallO lo) (hhi : smallO hi) : (sightS a b lo hi).length ≤ 100 := by
  rw [← sight_cat]
  have e1 : (" " : Str).length = 1 := by decide +kernel
  simp only [Str.length_append, e1]
  have := ha.hi
  have := hb.hi
  have := bnd_len hlo
  have := bnd_len hhi
  omega
/-! ### words of points -/
def aimS (w : Str) (i : Int) : Str := if 0 ≤ i then (w ++ "+") ++ decS i else w ++ decS i
def pointS (p q : Str × Int) : Str := Txt.join " " [aimS p.1 p.2, aimS q.1 q.2]
theorem tl_plus : TL.tl ("+" : Str) = [43] := by decide +kernel
theorem tl_minus : TL.tl ("-" : Str) = [45] := by decide +kernel
theorem plus_256 : ("+" : Str).cps.all (· < 256) = true := by decide +kernel
theorem aim_free {w : Str} (h : IsName w) (i : Int) : 32 ∉ TL.tl (aimS w i) := by
  unfold aimS
  split
  · rw [TL.tl_append, TL.tl_append, tl_plus]
    intro hm
    rcases List.mem_append.mp hm with hm | hm
    · rcases List.mem_append.mp hm with hm | hm
      · exact name_free h (by decide) hm
      · simp at hm
    · exact dec_free (by decide) hm
  · rw [TL.tl_append]
    intro hm
    rcases List.mem_append.mp hm with hm | hm
    · exact name_free h (by decide) hm
    · exact dec_free (by decide) hm
theorem aim_len {w : Str} (h : IsName w) {i : Int} (hi : i.natAbs < BIG) : (aimS w i).length ≤ 40 := by
  have e1 : ("+" : Str).length = 1 := by decide +kernel
  have := h.hi
  have := (dec_len hi).2
  unfold aimS
  split <;> simp only [Str.length_append, e1] <;> omega
theorem aim_pos {w : Str} (h : IsName w) {i : Int} (hi : 0 ≤ i) : Txt.partition (aimS w i) "+" = (w, ("+" : Str), decS i) := by
  unfold aimS
  rw [if_pos hi]
  exact TL.partition_app tl_plus (name_free h (by decide))
theorem dec_minus {i : Int} (hi : i < 0) : decS i = ("-" : Str) ++ numS i.natAbs := TL.ext_tl (by rw [tl_dec_neg hi, TL.tl_append, tl_minus, tl_numS]; rfl)
theorem aim_neg1 {w : Str} (h : IsName w) {i : Int} (hi : i < 0) : Txt.partition (aimS w i) "+" = (aimS w i, Str.empty, Str.empty) := by
  refine TL.partition_none tl_plus ?_
  unfold aimS
  rw [if_neg (by omega), TL.tl_append]
  intro hm
  rcases List.mem_append.mp hm with hm | hm
  · exact name_free h (by decide) hm
  · exact dec_free (by decide) hm
theorem aim_neg2 {w : Str} (h : IsName w) {i : Int} (hi : i < 0) : Txt.partition (aimS w i) "-" = (w, ("-" : Str), numS i.natAbs) := by
  unfold aimS
  rw [if_neg (by omega), dec_minus hi]
  have e : w ++ (("-" : Str) ++ numS i.natAbs) = (w ++ "-") ++ numS i.natAbs := TL.ext_tl (by simp only [TL.tl_append, List.append_assoc])
  rw [e]
  exact TL.partition_app tl_minus (name_free h (by decide))
theorem point_split {p q : Str × Int} (hp : IsName p.1) (hq : IsName q.1) : Txt.split (pointS p q) " " = [aimS p.1 p.2, aimS q.1 q.2] := TL.split_join tl_sp sp_256 (by simp) fun z hz => by
  simp only [List.mem_cons, List.not_mem_nil, or_false] at hz
  rcases hz with rfl | rfl
  · exact aim_free hp _
  · exact aim_free hq _
theorem point_len {p q : Str × Int} (hp : IsName p.1) (hq : IsName q.1) (h1 : p.2.natAbs < BIG) (h2 : q.2.natAbs < BIG) : (pointS p q).length ≤ 100 := by
  unfold pointS
  rw [len_join2]
  have := aim_len hp h1
  have := aim_len hq h2
  omega
theorem point_cat (p q : Str × Int) : (aimS p.1 p.2 ++ " ") ++ aimS q.1 q.2 = pointS p q := TL.ext_tl (by
  unfold pointS
  rw [TL.join_eq, TL.tl_join]
  simp only [TL.tl_append, List.map_cons, List.map_nil, TL.joinL, List.append_assoc])
theorem ne_of_len {a b : Str} (h : a.length ≠ b.length) : a ≠ b := fun e => h (by rw [e])
theorem dec_ne {i : Int} : decS i ≠ "-" := fun e => by
  have e2 := congrArg TL.tl e
  rw [tl_minus] at e2
  by_cases h0 : 0 ≤ i
  · rw [dec_pos h0, tl_numS] at e2
    exact TL.numL_free (n := i.toNat) (s := 45) (by decide) (by rw [e2]; simp)
  · rw [tl_dec_neg (by omega)] at e2
    have : TL.numL i.natAbs = [] := by simpa using e2
    exact TL.numL_ne _ this

theorem slice_tl1 (w : Str) {c : Nat} {cs : List Nat} (h : TL.tl w = c :: cs) : (cutS w none (some 1)).cps.toList = [c] := by
  have h : w.cps.toList = c :: cs := h
  unfold cutS HT.sIx
  simp only [List.drop_zero, Nat.sub_zero]
  rw [if_neg (by decide)]
  show w.cps.toList.take (min 1 w.length) = _
  have e : w.length = w.cps.toList.length := by rw [Array.length_toList]; rfl
  rw [e, h, List.length_cons, Nat.min_eq_left (by omega)]
  rfl
theorem slice_tl2 (w : Str) {c : Nat} {cs : List Nat} (h : TL.tl w = c :: cs) : (cutS w (some 1) none).cps.toList = cs := by
  have h : w.cps.toList = c :: cs := h
  have e : w.length = w.cps.toList.length := by rw [Array.length_toList]; rfl
  unfold cutS HT.sIx
  simp only
  rw [if_neg (by decide)]
  show (w.cps.toList.drop (min 1 w.length)).take (w.length - min 1 w.length) = _
  rw [e, h, List.length_cons, Nat.min_eq_left (by omega)]
  show cs.take (cs.length + 1 - 1) = cs
  rw [Nat.add_sub_cancel, List.take_length]

theorem empty_add (w : Str) : Str.empty ++ w = w := TL.ext_tl (by rw [TL.tl_append]; rfl)
theorem log_dec {i : Int} (h : i.natAbs < BIG) : i.natAbs.log2 < 1920 := by
  by_cases z : i.natAbs = 0
  · rw [z]; decide
  · have := (Nat.log2_lt z (k := 400)).mpr (Nat.lt_trans h (by decide))
    omega
theorem aim_sum (w : Str) {i : Int} (h : i < 0) : (w ++ "-") ++ numS i.natAbs = aimS w i := by
  unfold aimS
  rw [if_neg (by omega), dec_minus h]
  exact TL.ext_tl (by simp only [TL.tl_append, List.append_assoc])

/-! ### words of plans -/
def rowS (head : Str) (ws : List Str) : Str := Txt.join " " (head :: ws)
def planS (a b : List Str) : Str := Txt.join "" [rowS "uprights" a ++ "\n", rowS "levels" b ++ "\n"]
theorem tl_nl : TL.tl ("\n" : Str) = [10] := by decide +kernel
theorem nl_256 : ("\n" : Str).cps.all (· < 256) = true := by decide +kernel
theorem joinL_free {s : Nat} {S : List Nat} (hs : s ∉ S) : ∀ {parts : List (List Nat)}, (∀ p ∈ parts, s ∉ p) → s ∉ TL.joinL S parts
  | [], _ => by simp [TL.joinL]
  | [p], h => h p (by simp)
  | p :: q :: r, h => by
    show s ∉ p ++ (S ++ TL.joinL S (q :: r))
    intro hm
    rcases List.mem_append.mp hm with hm | hm
    · exact h p (by simp) hm
    rcases List.mem_append.mp hm with hm | hm
    · exact hs hm
    · exact joinL_free hs (fun z hz => h z (List.mem_cons_of_mem _ hz)) hm
theorem head_free {h : Str} (hh : h = "uprights" ∨ h = "levels") {s : Nat} (hs : s < 97) : s ∉ TL.tl h := by
  have : ∀ c ∈ TL.tl h, 97 ≤ c := by rcases hh with rfl | rfl <;> decide +kernel
  intro hm
  have := this s hm
  omega
theorem row_free {h : Str} (hh : h = "uprights" ∨ h = "levels") {ws : List Str} (hw : ∀ w ∈ ws, IsName w) : 10 ∉ TL.tl (rowS h ws) := by
  unfold rowS
  rw [TL.join_eq, TL.tl_join, tl_sp]
  refine joinL_free (by decide) fun p hp => ?_
  obtain ⟨z, hz, rfl⟩ := List.mem_map.mp hp
  rcases List.mem_cons.mp hz with rfl | hz
  · exact head_free hh (by decide)
  · exact name_free (hw z hz) (by decide)
theorem row_split {h : Str} (hh : h = "uprights" ∨ h = "levels") {ws : List Str} (hw : ∀ w ∈ ws, IsName w) : Txt.split (rowS h ws) " " = h :: ws := TL.split_join tl_sp sp_256 (by simp) fun p hp => by
  rcases List.mem_cons.mp hp with rfl | hz
  · exact head_free hh (by decide)
  · exact name_free (hw p hz) (by decide)
theorem plan_nl (a b : List Str) : planS a b = Txt.join "\n" [rowS "uprights" a, rowS "levels" b, ""] := TL.ext_tl (by
  unfold planS
  rw [TL.join_eq, TL.tl_join, TL.join_eq, TL.tl_join]
  have e : TL.tl ("" : Str) = [] := by decide +kernel
  simp only [List.map_cons, List.map_nil, TL.joinL, TL.tl_append, e, List.append_nil, List.nil_append, List.append_assoc])
theorem plan_split {a b : List Str} (hw : ∀ w ∈ a ++ b, IsName w) : Txt.split (planS a b) "\n" = [rowS "uprights" a, rowS "levels" b, ""] := by
  rw [plan_nl]
  refine TL.split_join tl_nl nl_256 (by simp) fun p hp => ?_
  simp only [List.mem_cons, List.not_mem_nil, or_false] at hp
  rcases hp with rfl | rfl | rfl
  · exact row_free (.inl rfl) fun w h => hw w (List.mem_append_left _ h)
  · exact row_free (.inr rfl) fun w h => hw w (List.mem_append_right _ h)
  · have e : TL.tl ("" : Str) = [] := by decide +kernel
    rw [e]; simp
theorem joinL_len (S : List Nat) : ∀ parts : List (List Nat), (TL.joinL S parts).length ≤ (parts.map List.length).sum + parts.length * S.length
  | [] => by simp [TL.joinL]
  | [p] => by simp [TL.joinL]
  | p :: q :: r => by
    have ih := joinL_len S (q :: r)
    show (p ++ (S ++ TL.joinL S (q :: r))).length ≤ _
    simp only [List.length_append, List.map_cons, List.sum_cons, List.length_cons, Nat.succ_mul] at ih ⊢
    omega
theorem names_sum : ∀ {ws : List Str}, (∀ w ∈ ws, IsName w) → (ws.map (·.length)).sum ≤ ws.length * 8
  | [], _ => by simp
  | w :: ws, h => by
    have h1 := (h w List.mem_cons_self).hi
    have h2 := names_sum fun z hz => h z (List.mem_cons_of_mem _ hz)
    simp only [List.map_cons, List.sum_cons, List.length_cons, Nat.succ_mul]
    omega
theorem head_len {h : Str} (hh : h = "uprights" ∨ h = "levels") : h.length ≤ 8 := by rcases hh with rfl | rfl <;> decide +kernel
theorem row_len {h : Str} (hh : h = "uprights" ∨ h = "levels") {ws : List Str} (hw : ∀ w ∈ ws, IsName w) (hl : ws.length ≤ 8) : (rowS h ws).length ≤ 100 := by
  unfold rowS
  rw [TL.len_tl, TL.join_eq, TL.tl_join, tl_sp]
  have h1 := joinL_len [32] ((h :: ws).map TL.tl)
  have h2 := names_sum hw
  have h3 := head_len hh
  have e : ((h :: ws).map TL.tl).map List.length = (h :: ws).map (·.length) := by
    rw [List.map_map]
    exact List.map_congr_left fun z _ => (TL.len_tl z).symm
  rw [e] at h1
  simp only [List.map_cons, List.sum_cons, List.length_cons, List.length_map, List.length_nil] at h1
  show (TL.joinL [32] (TL.tl h :: ws.map TL.tl)).length ≤ 100
  omega
theorem plan_len {a b : List Str} (hS : Shape a b) : (planS a b).length ≤ 300 := by
  have e1 : ("\n" : Str).length = 1 := by decide +kernel
  have h1 := row_len (h := "uprights") (.inl rfl) (fun w h => hS.nm w (List.mem_append_left _ h)) hS.a8
  have h2 := row_len (h := "levels") (.inr rfl) (fun w h => hS.nm w (List.mem_append_right _ h)) hS.b8
  have e : planS a b = (rowS "uprights" a ++ "\n") ++ (rowS "levels" b ++ "\n") := TL.ext_tl (by
    unfold planS
    rw [TL.join_eq, TL.tl_join]
    have e : TL.tl ("" : Str) = [] := by decide +kernel
    simp only [List.map_cons, List.map_nil, TL.joinL, TL.tl_append, e, List.nil_append, List.append_assoc])
  rw [e]
  simp only [Str.length_append, e1]
  omega
theorem due_cat (a b : List Str) (ha : a ≠ []) (hb : b ≠ []) : (((("uprights " : Str) ++ Txt.join " " a) ++ "\n") ++ "levels ") ++ Txt.join " " b ++ "\n" = planS a b := TL.ext_tl (by
  unfold planS rowS
  simp only [TL.join_eq, TL.tl_join, TL.tl_append, List.map_cons, List.map_nil]
  obtain ⟨a0, as, rfl⟩ := List.exists_cons_of_ne_nil ha
  obtain ⟨b0, bs, rfl⟩ := List.exists_cons_of_ne_nil hb
  have e : TL.tl ("" : Str) = [] := by decide +kernel
  have e1 : TL.tl ("uprights " : Str) = TL.tl ("uprights" : Str) ++ TL.tl (" " : Str) := by decide +kernel
  have e2 : TL.tl ("levels " : Str) = TL.tl ("levels" : Str) ++ TL.tl (" " : Str) := by decide +kernel
  simp only [TL.joinL, List.map_cons, e, e1, e2, List.nil_append, List.append_assoc, TL.tl_append, TL.tl_join])

theorem strs_shapedL {ws : List Str} (h : ∀ w ∈ ws, PyData.strOk w = true) : SeqAt.shaped (.list (ws.map PyData.str)) = true := shaped_plain (by simp only [plainD]; exact strs_plain h) (by
  have h := depthAll_le (n := 0) (xs := ws.map PyData.str) fun x hx => by
    obtain ⟨c, _, rfl⟩ := List.mem_map.mp hx
    simp [PyData.depth]
  simp only [PyData.depth]
  omega)
theorem fams_shaped {a b : List Str} (h : ∀ w ∈ a ++ b, IsName w) : SeqAt.shaped (famsD a b) = true := shaped_plain (by
  simp only [famsD, plainD, plainA, Bool.and_eq_true]
  exact ⟨strs_plain fun w hw => (h w (List.mem_append_left _ hw)).ok, strs_plain fun w hw => (h w (List.mem_append_right _ hw)).ok, trivial⟩) (by
  have d : ∀ ws : List Str, PyData.depthAll (ws.map PyData.str) ≤ 0 := fun ws => depthAll_le (n := 0) (xs := ws.map PyData.str) fun x hx => by
    obtain ⟨c, _, rfl⟩ := List.mem_map.mp hx
    simp [PyData.depth]
  have := d a
  have := d b
  simp only [famsD, PyData.depth, PyData.depthAll]
  omega)
theorem fams_eq {a b : List Str} (h : ∀ w ∈ a ++ b, IsName w) : PyData.eqv (famsD a b) (famsD a b) = true := (eqv_plain _ _ (by
  simp only [famsD, plainD, plainA, Bool.and_eq_true]
  exact ⟨strs_plain fun w hw => (h w (List.mem_append_left _ hw)).ok, strs_plain fun w hw => (h w (List.mem_append_right _ hw)).ok, trivial⟩) (by
  simp only [famsD, plainD, plainA, Bool.and_eq_true]
  exact ⟨strs_plain fun w hw => (h w (List.mem_append_left _ hw)).ok, strs_plain fun w hw => (h w (List.mem_append_right _ hw)).ok, trivial⟩)).mpr rfl

theorem lists_shaped {a b : List Str} (h : ∀ w ∈ a ++ b, IsName w) : SeqAt.shaped (.list [.list (a.map .str), .list (b.map .str)]) = true := shaped_plain (by
  simp only [plainD, plainA, Bool.and_eq_true]
  exact ⟨strs_plain fun w hw => (h w (List.mem_append_left _ hw)).ok, strs_plain fun w hw => (h w (List.mem_append_right _ hw)).ok, trivial⟩) (by
  have d : ∀ ws : List Str, PyData.depthAll (ws.map PyData.str) ≤ 0 := fun ws => depthAll_le (n := 0) (xs := ws.map PyData.str) fun x hx => by
    obtain ⟨c, _, rfl⟩ := List.mem_map.mp hx
    simp [PyData.depth]
  have := d a
  have := d b
  simp only [PyData.depth, PyData.depthAll]
  omega)

theorem rw_rep2 {K : PySem.W.Frag} {A : Amb} {k : KA} {d : PyData} (h : k A (.dat (.list [d, d]))) : RW K rRep (.dat (.list [d])) (.dat (.int 2)) A k := fun R F H v w Q a r1 r2 q => by
  obtain ⟨p, xs, rfl, h1, h2⟩ := sr_lst r1
  obtain rfl := sr_int r2
  obtain ⟨x, rfl, hx⟩ : ∃ x, xs = [x] ∧ Dt K F x d := by
    cases h2 with
    | cons hx t => cases t; exact ⟨_, rfl, hx⟩
  refine ⟨p, 2, [x], rfl, rfl, a.same _ _ h1, by decide, by decide, (show 1 * 2 ≤ sizeLine by decide), fun n hn => ?_⟩
  obtain ⟨a2, e2⟩ := a.alloc (o := .lst [x, x]) hn
  exact q A _ _ _ _ h e2 a2 (.lst upd_same (.cons (hx.mono e2) (.cons (hx.mono e2) .nil)))
theorem okx_tl {z : Str} : PyData.strOk z = true ↔ ∀ c ∈ TL.tl z, c < 0x110000 := by
  unfold PyData.strOk
  rw [Array.all_eq_true_iff_forall_mem]
  exact ⟨fun h c hc => of_decide_eq_true (h c (Array.mem_toList_iff.mp hc)), fun h c hc => decide_eq_true (h c (Array.mem_toList_iff.mpr hc))⟩
theorem okx_add {a b : Str} (ha : PyData.strOk a = true) (hb : PyData.strOk b = true) : PyData.strOk (a ++ b) = true := okx_tl.mpr fun c hc => by
  rw [TL.tl_append] at hc
  rcases List.mem_append.mp hc with hc | hc
  · exact okx_tl.mp ha c hc
  · exact okx_tl.mp hb c hc
theorem okx_dec (i : Int) : PyData.strOk (decS i) = true := okx_tl.mpr fun c hc => by
  unfold decS at hc
  rw [TL.tl_ofString] at hc
  obtain ⟨x, _, rfl⟩ := List.mem_map.mp hc
  have h : x.toNat.isValidChar := x.valid
  unfold Nat.isValidChar at h
  omega
theorem okx_bnd (o : Option Int) : PyData.strOk (bndS o) = true := by
  cases o with
  | none => decide +kernel
  | some i => exact okx_dec i
theorem okx_sight {a b : Str} {lo hi : Option Int} (ha : IsName a) (hb : IsName b) : PyData.strOk (sightS a b lo hi) = true := by
  rw [← sight_cat]
  have hs : PyData.strOk " " = true := by decide +kernel
  exact okx_add (okx_add (okx_add (okx_add (okx_add (okx_add ha.ok hs) hb.ok) hs) (okx_bnd lo)) hs) (okx_bnd hi)
theorem okx_aim {w : Str} (h : IsName w) (i : Int) : PyData.strOk (aimS w i) = true := by
  unfold aimS
  split
  · exact okx_add (okx_add h.ok (by decide +kernel)) (okx_dec i)
  · exact okx_add h.ok (okx_dec i)
theorem okx_point {p q : Str × Int} (hp : IsName p.1) (hq : IsName q.1) : PyData.strOk (pointS p q) = true := by
  rw [← point_cat]
  exact okx_add (okx_add (okx_aim hp _) (by decide +kernel)) (okx_aim hq _)
theorem fine_bnd {o : Option Int} (h : smallO o) : fineD (bndD o) = true := by
  cases o with
  | none => rfl
  | some i =>
    simp only [bndD, fineD, decide_eq_true_eq]
    exact Nat.lt_trans (h i rfl) (by decide)
theorem wide_bnd (o : Option Int) : wideD (bndD o) ≤ 101 := by cases o <;> simp [bndD, wideD]
theorem deep_bnd (o : Option Int) : (bndD o).depth = 0 := by cases o <;> simp [bndD, PyData.depth]
theorem nd_bnd (o : Option Int) : (bndD o).hasDict = false := by cases o <;> simp [bndD, PyData.hasDict]
/-- a fine thing without dicts, ready for repr -/
structure Rp (d : PyData) : Prop where
  fine : fineD d = true
  wide : wideD d ≤ 10000
  deep : d.depth ≤ 3
  nd : d.hasDict = false
theorem Rp.str {z : Str} (h : PyData.strOk z = true) (hl : z.length ≤ 300) : Rp (.str z) := ⟨by simpa only [fineD] using h, by simp only [wideD]; omega, by simp [PyData.depth], by simp [PyData.hasDict]⟩
theorem rp_sight {a b : Str} {lo hi : Option Int} (ha : IsName a) (hb : IsName b) (hlo : smallO lo) (hhi : smallO hi) : Rp (.tuple [.str a, .str b, bndD lo, bndD hi]) where
  fine := by
    simp only [fineD, fineA, fine_bnd hlo, fine_bnd hhi, Bool.and_true, Bool.and_eq_true]
    exact ⟨ha.ok, hb.ok⟩
  wide := by
    have := wide_bnd lo
    have := wide_bnd hi
    have := ha.hi
    have := hb.hi
    simp only [wideD, wideA]
    omega
  deep := by
    have := deep_bnd lo
    have := deep_bnd hi
    simp only [PyData.depth, PyData.depthAll]
    omega
  nd := by simp [PyData.hasDict, PyData.hasDictAll, nd_bnd]
theorem rp_point {p q : Str × Int} (hp : IsName p.1) (hq : IsName q.1) (h1 : p.2.natAbs < BIG) (h2 : q.2.natAbs < BIG) : Rp (.tuple [.tuple [.str p.1, .int p.2], .tuple [.str q.1, .int q.2]]) where
  fine := by
    simp only [fineD, fineA, Bool.and_true, Bool.and_eq_true, decide_eq_true_eq]
    exact ⟨⟨hp.ok, Nat.lt_trans h1 (by decide)⟩, hq.ok, Nat.lt_trans h2 (by decide)⟩
  wide := by
    have := hp.hi
    have := hq.hi
    simp only [wideD, wideA]
    omega
  deep := by simp [PyData.depth, PyData.depthAll]
  nd := by simp [PyData.hasDict, PyData.hasDictAll]
theorem cw_repr2 {K : PySem.W.Frag} {A : Amb} {k : KA} {d : PyData} (h : Rp d) (hk : k A (.dat (.str (PyData.list [d, d]).shown))) : CW K (rReprD K) [.dat (.list [d, d])] A k := by
  refine cw_reprF (fun z => ?_) ?_ ?_ ?_ hk
  · simp [PyData.hasDict, PyData.hasDictAll, h.nd] at z
  · simp only [fineD, fineA, h.fine, Bool.and_self, Bool.and_true]
  · have := h.wide
    simp only [wideD, wideA]
    omega
  · have := h.deep
    simp only [PyData.depth, PyData.depthAll]
    omega
theorem strs_same (ws : List Str) (h : ∀ w ∈ ws, PyData.strOk w = true) : PyData.eqv (.tuple (ws.map PyData.str)) (.tuple (ws.map PyData.str)) = true := (eqv_plain _ _ (by simp only [plainD]; exact strs_plain h) (by simp only [plainD]; exact strs_plain h)).mpr rfl
theorem names_len {ws : List Str} (hw : ∀ w ∈ ws, IsName w) (hl : ws.length ≤ 8) : (ws.map (·.length)).sum + ws.length * (" " : Str).length ≤ 72 ∧ (Txt.join " " ws).length ≤ 72 := by
  have e1 : (" " : Str).length = 1 := by decide +kernel
  have h1 := joinL_len [32] (ws.map TL.tl)
  have h2 := names_sum hw
  have e : (ws.map TL.tl).map List.length = ws.map (·.length) := by
    rw [List.map_map]
    exact List.map_congr_left fun z _ => (TL.len_tl z).symm
  rw [e] at h1
  simp only [List.length_map, List.length_cons, List.length_nil] at h1
  refine ⟨by rw [e1]; omega, ?_⟩
  rw [TL.len_tl, TL.join_eq, TL.tl_join, tl_sp]
  omega
theorem sighted_small {lo : Option Int} (h : ∀ i, lo = some i → -900000100 ≤ i ∧ i ≤ 900000100) : smallO lo := fun i hi => by
  have := h i hi
  show i.natAbs < 1000000000000000000000000000000
  omega

structure Tx (w : World) (K : PySem.W.Frag) (mg : Str → Option Value) where
  C_Plan : Addr
  cl_Plan : Cls K C_Plan
  mg_Plan : mg "Plan" = some (.ref C_Plan)
  na_Plan_families : NoAttr K C_Plan "families"
  nf_Plan : PySem.W.notFirst K C_Plan (.ref C_Plan) = true
  ic_Plan : C8.InsC K C_Plan
  f_Plan___eq__ : Addr
  d_Plan___eq__ : FuncData
  F_Plan___eq__ : Fun K "__eq__" "Plan.__eq__" s_Plan___eq__ f_Plan___eq__ d_Plan___eq__
  b_Plan___eq__ : Binds K d_Plan___eq__ ["self", "other"] []
  M_Plan___eq__ : Meth K C_Plan "__eq__" f_Plan___eq__
  f_is_name : Addr
  d_is_name : FuncData
  F_is_name : Fun K "is_name" "is_name" s_is_name f_is_name d_is_name
  g_is_name : mg "is_name" = some (.ref f_is_name)
  b_is_name : Binds K d_is_name ["thing"] []
  f_are_lines : Addr
  d_are_lines : FuncData
  F_are_lines : Fun K "are_lines" "are_lines" s_are_lines f_are_lines d_are_lines
  g_are_lines : mg "are_lines" = some (.ref f_are_lines)
  b_are_lines : Binds K d_are_lines ["thing"] []
  f_Plan___init__ : Addr
  d_Plan___init__ : FuncData
  F_Plan___init__ : Fun K "__init__" "Plan.__init__" s_Plan___init__ f_Plan___init__ d_Plan___init__
  b_Plan___init__ : Binds K d_Plan___init__ ["self", "uprights", "levels"] []
  M_Plan___init__ : Mk K C_Plan f_Plan___init__
  f_Plan_lines : Addr
  d_Plan_lines : FuncData
  F_Plan_lines : Fun K "lines" "Plan.lines" s_Plan_lines f_Plan_lines d_Plan_lines
  b_Plan_lines : Binds K d_Plan_lines ["self", "family"] []
  M_Plan_lines : Meth K C_Plan "lines" f_Plan_lines
  f_bound_text : Addr
  d_bound_text : FuncData
  F_bound_text : Fun K "bound_text" "bound_text" s_bound_text f_bound_text d_bound_text
  g_bound_text : mg "bound_text" = some (.ref f_bound_text)
  b_bound_text : Binds K d_bound_text ["bound"] []
  f_sight_text : Addr
  d_sight_text : FuncData
  F_sight_text : Fun K "sight_text" "sight_text" s_sight_text f_sight_text d_sight_text
  g_sight_text : mg "sight_text" = some (.ref f_sight_text)
  b_sight_text : Binds K d_sight_text ["sight"] []
  f_number_by : Addr
  d_number_by : FuncData
  F_number_by : Fun K "number_by" "number_by" s_number_by f_number_by d_number_by
  g_number_by : mg "number_by" = some (.ref f_number_by)
  b_number_by : Binds K d_number_by ["word"] []
  f_whole_by : Addr
  d_whole_by : FuncData
  F_whole_by : Fun K "whole_by" "whole_by" s_whole_by f_whole_by d_whole_by
  g_whole_by : mg "whole_by" = some (.ref f_whole_by)
  b_whole_by : Binds K d_whole_by ["word"] []
  f_is_bound_word : Addr
  d_is_bound_word : FuncData
  F_is_bound_word : Fun K "is_bound_word" "is_bound_word" s_is_bound_word f_is_bound_word d_is_bound_word
  g_is_bound_word : mg "is_bound_word" = some (.ref f_is_bound_word)
  b_is_bound_word : Binds K d_is_bound_word ["word"] []
  f_read_sight : Addr
  d_read_sight : FuncData
  F_read_sight : Fun K "read_sight" "read_sight" s_read_sight f_read_sight d_read_sight
  g_read_sight : mg "read_sight" = some (.ref f_read_sight)
  b_read_sight : Binds K d_read_sight ["text"] []
  f_aim_text : Addr
  d_aim_text : FuncData
  F_aim_text : Fun K "aim_text" "aim_text" s_aim_text f_aim_text d_aim_text
  g_aim_text : mg "aim_text" = some (.ref f_aim_text)
  b_aim_text : Binds K d_aim_text ["aim"] []
  f_point_text : Addr
  d_point_text : FuncData
  F_point_text : Fun K "point_text" "point_text" s_point_text f_point_text d_point_text
  g_point_text : mg "point_text" = some (.ref f_point_text)
  b_point_text : Binds K d_point_text ["point"] []
  f_aim_by : Addr
  d_aim_by : FuncData
  F_aim_by : Fun K "aim_by" "aim_by" s_aim_by f_aim_by d_aim_by
  g_aim_by : mg "aim_by" = some (.ref f_aim_by)
  b_aim_by : Binds K d_aim_by ["word"] []
  f_read_point : Addr
  d_read_point : FuncData
  F_read_point : Fun K "read_point" "read_point" s_read_point f_read_point d_read_point
  g_read_point : mg "read_point" = some (.ref f_read_point)
  b_read_point : Binds K d_read_point ["text"] []
  f_plan_text : Addr
  d_plan_text : FuncData
  F_plan_text : Fun K "plan_text" "plan_text" s_plan_text f_plan_text d_plan_text
  g_plan_text : mg "plan_text" = some (.ref f_plan_text)
  b_plan_text : Binds K d_plan_text ["plan"] []
  f_names_by : Addr
  d_names_by : FuncData
  F_names_by : Fun K "names_by" "names_by" s_names_by f_names_by d_names_by
  g_names_by : mg "names_by" = some (.ref f_names_by)
  b_names_by : Binds K d_names_by ["row", "head"] []
  f_read_plan : Addr
  d_read_plan : FuncData
  F_read_plan : Fun K "read_plan" "read_plan" s_read_plan f_read_plan d_read_plan
  g_read_plan : mg "read_plan" = some (.ref f_read_plan)
  b_read_plan : Binds K d_read_plan ["text"] []
  f__law_begin : Addr
  d__law_begin : FuncData
  F__law_begin : Fun K "_law_begin" "_law_begin" s__law_begin f__law_begin d__law_begin
  g__law_begin : mg "_law_begin" = some (.ref f__law_begin)
  b__law_begin : Binds K d__law_begin ["script"] []
  f__law_take : Addr
  d__law_take : FuncData
  F__law_take : Fun K "_law_take" "_law_take" s__law_take f__law_take d__law_take
  g__law_take : mg "_law_take" = some (.ref f__law_take)
  b__law_take : Binds K d__law_take ["draw", "size"] []
  f__law_pick : Addr
  d__law_pick : FuncData
  F__law_pick : Fun K "_law_pick" "_law_pick" s__law_pick f__law_pick d__law_pick
  g__law_pick : mg "_law_pick" = some (.ref f__law_pick)
  b__law_pick : Binds K d__law_pick ["draw", "some"] []
  f__law_names : Addr
  d__law_names : FuncData
  F__law_names : Fun K "_law_names" "_law_names" s__law_names f__law_names d__law_names
  g__law_names : mg "_law_names" = some (.ref f__law_names)
  b__law_names : Binds K d__law_names ["draw", "many"] []
  f__law_shape : Addr
  d__law_shape : FuncData
  F__law_shape : Fun K "_law_shape" "_law_shape" s__law_shape f__law_shape d__law_shape
  g__law_shape : mg "_law_shape" = some (.ref f__law_shape)
  b__law_shape : Binds K d__law_shape ["draw", "top"] []
  f__law_true : Addr
  d__law_true : FuncData
  F__law_true : Fun K "_law_true" "_law_true" s__law_true f__law_true d__law_true
  g__law_true : mg "_law_true" = some (.ref f__law_true)
  b__law_true : Binds K d__law_true ["draw", "shape"] []
  f__law_sight : Addr
  d__law_sight : FuncData
  F__law_sight : Fun K "_law_sight" "_law_sight" s__law_sight f__law_sight d__law_sight
  g__law_sight : mg "_law_sight" = some (.ref f__law_sight)
  b__law_sight : Binds K d__law_sight ["draw", "shape", "true", "odd"] []
  f__law_point : Addr
  d__law_point : FuncData
  F__law_point : Fun K "_law_point" "_law_point" s__law_point f__law_point d__law_point
  g__law_point : mg "_law_point" = some (.ref f__law_point)
  b__law_point : Binds K d__law_point ["draw", "shape", "true"] []
  f__law_bound_text : Addr
  d__law_bound_text : FuncData
  F__law_bound_text : Fun K "_law_bound_text" "_law_bound_text" s__law_bound_text f__law_bound_text d__law_bound_text
  g__law_bound_text : mg "_law_bound_text" = some (.ref f__law_bound_text)
  b__law_bound_text : Binds K d__law_bound_text ["bound"] []
  f__law_sight_text : Addr
  d__law_sight_text : FuncData
  F__law_sight_text : Fun K "_law_sight_text" "_law_sight_text" s__law_sight_text f__law_sight_text d__law_sight_text
  g__law_sight_text : mg "_law_sight_text" = some (.ref f__law_sight_text)
  b__law_sight_text : Binds K d__law_sight_text ["seen"] []
  f__law_aim_text : Addr
  d__law_aim_text : FuncData
  F__law_aim_text : Fun K "_law_aim_text" "_law_aim_text" s__law_aim_text f__law_aim_text d__law_aim_text
  g__law_aim_text : mg "_law_aim_text" = some (.ref f__law_aim_text)
  b__law_aim_text : Binds K d__law_aim_text ["aim"] []
  f__law_point_text : Addr
  d__law_point_text : FuncData
  F__law_point_text : Fun K "_law_point_text" "_law_point_text" s__law_point_text f__law_point_text d__law_point_text
  g__law_point_text : mg "_law_point_text" = some (.ref f__law_point_text)
  b__law_point_text : Binds K d__law_point_text ["mark"] []
  f_law : Addr
  d_law : FuncData
  F_law : Fun K "law" "law" s_law f_law d_law
  g_law : mg "law" = some (.ref f_law)
  b_law : Binds K d_law ["script"] []
  n_abs : mg "abs" = none
  n_all : mg "all" = none
  n_enumerate : mg "enumerate" = none
  n_int : mg "int" = none
  n_isinstance : mg "isinstance" = none
  n_len : mg "len" = none
  n_list : mg "list" = none
  n_range : mg "range" = none
  n_repr : mg "repr" = none
  n_set : mg "set" = none
  n_str : mg "str" = none
  n_tuple : mg "tuple" = none
  n_zip : mg "zip" = none
  t_FEWEST_LINES : Tok
  m_FEWEST_LINES : mg "FEWEST_LINES" = some (.int (2) t_FEWEST_LINES)
  t_FIGURES : Tok
  m_FIGURES : mg "FIGURES" = some (.str "0123456789" t_FIGURES)
  a_HEADS : Addr
  m_HEADS : mg "HEADS" = some (.ref a_HEADS)
  v_HEADS : Dt K (fun _ => none) (.ref a_HEADS) (.tuple [(.str "uprights"), (.str "levels")])
  t_LETTERS : Tok
  m_LETTERS : mg "LETTERS" = some (.str "abcdefghijklmnopqrstuvwxyz" t_LETTERS)
  t_LONGEST_NAME : Tok
  m_LONGEST_NAME : mg "LONGEST_NAME" = some (.int (8) t_LONGEST_NAME)
  t_MOST_FIGURES : Tok
  m_MOST_FIGURES : mg "MOST_FIGURES" = some (.int (40) t_MOST_FIGURES)
  t_MOST_LINES : Tok
  m_MOST_LINES : mg "MOST_LINES" = some (.int (8) t_MOST_LINES)
  t_NOTHING : Tok
  m_NOTHING : mg "NOTHING" = some (.str "-" t_NOTHING)
  kb_read_point_0_text : KB K d_read_point ["text"] 0 ["text"] [.inr 0]
  kb_point_text_0_point : KB K d_point_text ["point"] 0 ["point"] [.inr 0]
  kb_read_sight_0_text : KB K d_read_sight ["text"] 0 ["text"] [.inr 0]
  kb_sight_text_0_sight : KB K d_sight_text ["sight"] 0 ["sight"] [.inr 0]
  kb_read_plan_0_text : KB K d_read_plan ["text"] 0 ["text"] [.inr 0]
  kb_plan_text_0_plan : KB K d_plan_text ["plan"] 0 ["plan"] [.inr 0]
end Q84

namespace Q84
open PySem L2 DL




local macro_rules | `(tactic| walk_at "side") => `(tactic| first
  | exact Or.inr ⟨by decide, by decide⟩
  | exact Or.inl ⟨by decide, by decide⟩
  | exact Or.inl ⟨by omega, by omega⟩
  | exact Or.inr ⟨by omega, by omega⟩
  | exact ⟨by decide, by decide⟩
  | exact ⟨by omega, by omega⟩
  | (show (0 : Int) < _; omega)
  | (show (0 : Int) < _; decide))
local macro_rules | `(tactic| walk_at "sh") => `(tactic| first
  | assumption
  | (simp [SeqAt.shaped, PyData.canLay0, PyData.canLayAll0, PyData.depth, PyData.depthAll]; done))
local macro_rules | `(tactic| walk_at "cell") => `(tactic| first
  | exact List.mem_cons_self
  | exact List.mem_cons_of_mem _ List.mem_cons_self
  | exact List.mem_cons_of_mem _ (List.mem_cons_of_mem _ List.mem_cons_self)
  | exact List.mem_cons_of_mem _ (List.mem_cons_of_mem _ (List.mem_cons_of_mem _ List.mem_cons_self)))
local macro_rules | `(tactic| walk_at "upd") => `(tactic| first
  | exact Upd.head
  | exact Upd.tail Upd.head
  | exact Upd.tail (Upd.tail Upd.head)
  | exact Upd.tail (Upd.tail (Upd.tail Upd.head)))
local macro_rules | `(tactic| walk_at "rem") => `(tactic| first
  | exact Rem.head
  | exact Rem.tail Rem.head
  | exact Rem.tail (Rem.tail Rem.head)
  | exact Rem.tail (Rem.tail (Rem.tail Rem.head)))
local macro_rules | `(tactic| walk_at "to") => `(tactic| first
  | exact to_name (by decide)
  | (refine to_tupK ?_; repeat (first | exact tok_nil | refine tok_name (by decide) ?_ | refine tok_tup ?_ ?_)))
local macro_rules | `(tactic| walk_at "wp1e") => `(tactic| first
  | (with_reducible refine go_ret ?_)
  | (with_reducible refine go_set ?_)
  | (with_reducible refine go_drop ?_)
  | (with_reducible refine go_lput ?_)
  | (with_reducible refine go_fld ?_)
  | (with_reducible refine go_asgT ?_)
  | (with_reducible refine go_asg ?_)
  | (with_reducible refine go_if ?_)
  | (with_reducible refine go_par ?_)
  | (with_reducible refine go_dput ?_)
  | ((with_reducible refine' wp_vd ?e ?_); (case e => rfl))
  | ((with_reducible refine' wp_vp ?e ?_); (case e => rfl))
  | ((with_reducible refine' wp_vs ?e ?_); (case e => rfl))
  | (with_reducible refine wp_ci ?_)
  | (with_reducible refine wp_cs ?_)
  | (with_reducible refine wp_cb ?_)
  | (with_reducible refine wp_cn ?_)
  | ((with_reducible refine' wp_c ?e ?_); (case e => assumption))
  | (with_reducible refine wp_op ?_)
  | (with_reducible refine wp_un ?_)
  | (with_reducible refine wpa_nil ?_)
  | (with_reducible refine wpa_cons ?_)
  | (with_reducible refine wpp_nil ?_)
  | (with_reducible refine wpp_cons ?_)
  | (with_reducible refine wp_tup ?_)
  | (with_reducible refine wp_lst ?_)
  | (with_reducible refine wp_isi2 (by first | exact .inl rfl | exact .inr rfl) (by first | exact .inl rfl | exact .inr rfl) ?_)
  | (with_reducible refine wp_isiG ?_)
  | (with_reducible refine wp_cb_call ?_)
  | (with_reducible refine wp_call ?_)
  | (with_reducible refine wp_callP ?_)
  | (with_reducible refine wp_dget ?_)
  | (with_reducible refine wp_sl ?_)
  | (with_reducible refine wpo_none ?_)
  | (with_reducible refine wpo_some ?_)
  | (with_reducible refine wp_chain ?_)
  | (with_reducible refine wp_disp ?_)
  | (with_reducible refine wp_dnew ?_)
  | (with_reducible refine wpt_test ?_)
  | (with_reducible refine wpt_b ?_)
  | (with_reducible refine wpt_not ?_)
  | (with_reducible refine wpt_yes ?_)
  | (with_reducible refine gw_name ?_)
  | ((refine' gw_tup ?e ?_); (case e => rfl))
  | (refine gws_cons ?_)
  | (refine gws_nil ?_)
  | ((refine' rw_I0 ?e ?_); (case e => rfl))
  | ((refine' rw_I ?c ?e ?_); (case e => rfl); (case c => walk_at "side"))
  | ((refine' uw_U ?e ?_); (case e => rfl))
  | ((refine' rw_ixT ?e ?_); (case e => rfl))
  | ((refine' rw_ixL ?e ?_); (case e => rfl))
  | ((refine' rw_eqD ?e1 ?e2 ?_); (case e1 => walk_at "sh"); (case e2 => walk_at "sh"))
  | ((refine' rw_neD ?e1 ?e2 ?_); (case e1 => walk_at "sh"); (case e2 => walk_at "sh"))
  | ((refine' rw_inT ?e1 ?e2 ?_); (case e1 => walk_at "sh"); (case e2 => walk_at "sh"))
  | ((refine' rw_inL ?e1 ?e2 ?_); (case e1 => walk_at "sh"); (case e2 => walk_at "sh"))
  | ((refine' rw_niT ?e1 ?e2 ?_); (case e1 => walk_at "sh"); (case e2 => walk_at "sh"))
  | ((refine' rw_niL ?e1 ?e2 ?_); (case e1 => walk_at "sh"); (case e2 => walk_at "sh"))
  | (with_reducible refine rw_eqS ?_)
  | (with_reducible refine rw_inC ?_)
  | (with_reducible refine rw_niC ?_)
  | (with_reducible refine rw_neS ?_)
  | (with_reducible refine rw_isN ?_)
  | (with_reducible refine rw_notN ?_)
  | (with_reducible refine wp_if ?_)
  | (with_reducible refine go_next ?_)
  | (with_reducible refine go_cont ?_)
  | (with_reducible refine go_break ?_))
local macro_rules | `(tactic| walk_at "wp1") => `(tactic| first
  | (with_reducible refine go_seq ?_)
  | walk_at "wp1e")
local macro_rules | `(tactic| walk_at "ex") => `(tactic| first
  | (refine ⟨_, rfl, (sz64 rfl), ?_⟩)
  | (refine ⟨_, rfl, ?_⟩)
  | (refine ⟨_, _, rfl, ?_⟩)
  | (refine ⟨_, Or.inl rfl, (by decide), ?_⟩)
  | (refine ⟨_, Or.inr ⟨_, _, rfl, (by walk_at "cell"), rfl⟩, (by decide), ?_⟩))
local macro_rules | `(tactic| walk_at "wp") => `(tactic| repeat (first | walk_at "wp1" | walk_at "ex"))
local macro_rules | `(tactic| walk_at "wpe") => `(tactic| repeat (first | walk_at "wp1e" | walk_at "ex"))

local macro_rules | `(tactic| walk_at "dec") => `(tactic| first
  | assumption
  | (simp [isK, isNone, PyData.isTuple, PyData.isStr, PyData.isInt, PyData.isBool, PyData.isList, PyData.isDict, PyData.eqv, PyData.eqvAll]; done)
  | (simp [isK, isNone, PyData.isTuple, PyData.isStr, PyData.isInt, PyData.isBool, PyData.isList, PyData.isDict, PyData.eqv, PyData.eqvAll]; omega)
  | (simp_all [isK, isNone, PyData.isTuple, PyData.isStr, PyData.isInt, PyData.isBool, PyData.isList, PyData.isDict, PyData.eqv, PyData.eqvAll]; done))
local macro_rules | `(tactic| walk_at "br") => `(tactic| first
  | (refine ⟨fun _ => ?_, fun e => Bool.noConfusion e⟩)
  | (refine ⟨fun e => Bool.noConfusion e, fun _ => ?_⟩)
  | (refine ⟨fun _ => ?_, fun e => absurd e (by walk_at "dec")⟩)
  | (refine ⟨fun e => absurd e (by walk_at "dec"), fun _ => ?_⟩))
local macro_rules | `(tactic| walk_at "go1") => `(tactic| first
  | walk_at "wp1"
  | walk_at "ex"
  | (with_reducible refine rw_isB ?_)
  | (with_reducible refine rw_notB ?_)
  | (with_reducible refine wpt_or ?_)
  | (with_reducible refine wpt_and ?_)
  | (with_reducible refine wp_andV ?_)
  | (with_reducible refine wp_orV ?_)
  | (with_reducible refine cw_lenT ?_)
  | (with_reducible refine cw_lenL ?_)
  | (with_reducible refine sw_tup ?_)
  | (with_reducible refine sw_list ?_)
  | walk_at "br")
local macro_rules | `(tactic| walk_at "goD") => `(tactic| repeat (first | (with_reducible refine wp_dnewD ?_) | walk_at "go1"))
local macro_rules | `(tactic| walk_at "go1e") => `(tactic| first
  | walk_at "wp1e"
  | walk_at "ex"
  | (with_reducible refine rw_isB ?_)
  | (with_reducible refine rw_notB ?_)
  | (with_reducible refine wpt_or ?_)
  | (with_reducible refine wpt_and ?_)
  | (with_reducible refine wp_andV ?_)
  | (with_reducible refine wp_orV ?_)
  | (with_reducible refine cw_lenT ?_)
  | (with_reducible refine cw_lenL ?_)
  | (with_reducible refine sw_tup ?_)
  | (with_reducible refine sw_list ?_)
  | walk_at "br")
local macro_rules | `(tactic| walk_at "goe") => `(tactic| repeat (walk_at "go1e"))
local macro_rules | `(tactic| walk_at "go") => `(tactic| repeat (walk_at "go1"))

section
variable {P : Program} {w : World} {K : PySem.W.Frag} {mg : Str → Option Value} {base : Heap}
def W_Plan___eq__ : Addr → List SV → Amb → KA → Prop := fun C ss A k => ∃ x : Addr × Addr × List Str × List Str, ss = [.ptr x.1, .ptr x.2.1] ∧ isPlan C A x.1 x.2.2.1 x.2.2.2 ∧ isPlan C A x.2.1 x.2.2.1 x.2.2.2 ∧ (∀ w ∈ x.2.2.1 ++ x.2.2.2, IsName w) ∧ k A (.dat (.bool true))
theorem ok_Plan___eq__ (T : Tx w K mg) : FnOk P w K mg base CX0 1 T.f_Plan___eq__ T.d_Plan___eq__ ["self", "other"] (spW K (W_Plan___eq__ T.C_Plan)) := by
  refine fn_go T.F_Plan___eq__ sc_Plan___eq__ (fun ss A k h => ?_) (fun cdv A outer s H E hr => ?_)
  · obtain ⟨i, rfl, _⟩ := h; rfl
  · have hu : (A.deeper (PyProof.Rows.envOfC "Plan.__eq__" (defScope s_Plan___eq__) s.heap.objs.size T.f_Plan___eq__ cdv)).units + 65 < cLine := by have := hr.un; omega
    have hu1 := hu_of hr
    refine ⟨_, (pss_one (ps_ret (pe_and (pe_callB (call_isCW T.ic_Plan) (by rfl) T.n_isinstance (by decide +kernel) (pa_cons (pv 1) (pa_cons (pe_glob (v := .ref T.C_Plan) rfl T.mg_Plan rfl) pa_nil))) (pe_one (pe_cmpR (op_eqK K hu) (pe_fldK K (pv 0) rfl) (pe_fldK K (pv 1) rfl) (nomark _)))))), ?_⟩
    rintro ss A k ⟨⟨p, q, a, b⟩, rfl, hk⟩
    (try dsimp only [cxK] at hk); (try dsimp only [cxK])
    change Go _ _ _ [_, _] _
    obtain ⟨⟨dx, hp⟩, ⟨dy, hq⟩, hnm, hk⟩ := hk
    refine go_ret ?_
    refine wp_andV ?_
    refine wp_isC ?_
    walk_at "wp"
    refine ⟨q, dy, _, rfl, hq, ?_⟩
    walk_at "go"
    refine wp_fld ?_
    walk_at "wp"
    refine ⟨_, _, _, _, _, rfl, hp, T.cl_Plan, T.na_Plan_families, rfl, ?_⟩
    refine wp_fld ?_
    walk_at "wp"
    refine ⟨_, _, _, _, _, rfl, hq, T.cl_Plan, T.na_Plan_families, rfl, ?_⟩
    refine rw_eqD (fams_shaped hnm) (fams_shaped hnm) ?_
    rw [fams_eq hnm]
    exact hk
def W_is_name : List SV → Amb → KA → Prop := fun ss A k => ∃ w : Str, ss = [.dat (.str w)] ∧ IsName w ∧ k A (.dat (.bool true))
theorem ok_is_name (T : Tx w K mg) : FnOk P w K mg base CX0 1 T.f_is_name T.d_is_name ["thing"] (spW K (W_is_name)) := by
  refine fn_go T.F_is_name sc_is_name (fun ss A k h => ?_) (fun cdv A outer s H E hr => ?_)
  · obtain ⟨i, rfl, _⟩ := h; rfl
  · have hu : (A.deeper (PyProof.Rows.envOfC "is_name" (defScope s_is_name) s.heap.objs.size T.f_is_name cdv)).units + 65 < cLine := by have := hr.un; omega
    have hu1 := hu_of hr
    refine ⟨_, (pss_cons (ps_if (PW.pt (pw_or (pt_not (pt_val (pe_callB (call_isiK2 K) (by rfl) T.n_isinstance (by decide +kernel) (pa_cons (pv 0) (pa_cons (pe_bltn (v := .ty "str") (by rfl) T.n_str (by decide +kernel) rfl) pa_nil))))) (pw_or1 (pt_not (pt_chain op_le op_le pe_int (pe_callB (call_lenK K) (by rfl) T.n_len (by decide +kernel) (pa_cons (pv 0) pa_nil)) (pe_glob (v := .int (8)) rfl T.m_LONGEST_NAME ⟨_, rfl⟩))))))
        (pss_one (ps_ret pe_bl))
        pss_nil)
      (pss_one (ps_ret (pe_callB (cr_allK K rfl) (by rfl) T.n_all (by decide +kernel) (pa_cons (pe_lc (own := [("sign", 1)]) rfl sc_is_name.nd (pi_str (pv 0)) (blkOk_by (own := [("sign", 1)]) (N := NN_is_name) (sc := (defScope s_is_name)) (by decide +kernel)) (fun _ _ _ _ _ => (pg_name (i := 1) sc_is_name.nd rfl (by first | exact Or.inl rfl | exact Or.inr rfl))) (fun _ _ _ _ _ => pts_nil) (fun _ _ _ _ _ => (pe_cmpR op_inC (pv 1) (pe_glob (v := .str "abcdefghijklmnopqrstuvwxyz") rfl T.m_LETTERS ⟨_, rfl⟩) rfl))) pa_nil))))), ?_⟩
    rintro ss A k ⟨i, rfl, hk⟩
    (try dsimp only [cxK] at hk); (try dsimp only [cxK])
    change Go _ _ _ [_, SV.no] _
    obtain ⟨hn, hk⟩ := hk
    have h1 := hn.lo
    have h8 := hn.hi
    have hz : i.length ≤ sizeLine := sz (by omega)
    walk_at "wp"
    refine wpt_or ?_
    walk_at "wp"
    refine ⟨fun e => absurd e (by simp [isK, PyData.isStr]), fun _ => ?_⟩
    walk_at "wp"
    refine cw_lenX hz ?_
    walk_at "wp"
    refine ⟨fun _ => ?_, fun e => absurd e (by simp; omega)⟩
    walk_at "wp"
    refine ⟨fun e => absurd e (by simp; omega), fun _ => ?_⟩
    walk_at "wp"
    refine wp_lcA (enc := sig1) (xs := i.cps.toList) (by walk_at "to") (fun _ => .bool true) (by rw [Array.length_toList]; exact hz) ?_
    refine iw_str ?_
    walk_at "wp"
    refine ⟨rfl, fun c hc => ?_, ?_⟩
    · walk_at "wp"
      refine ⟨rfl, ?_⟩
      rw [decide_eq_true (hn.let_ c hc)]
    walk_at "wp"
    have e : (i.cps.toList.map fun _ => PyData.bool true) = (i.cps.toList.map fun _ => true).map PyData.bool := by rw [List.map_map]; rfl
    rw [e]
    refine cw_all ?_
    rw [all_true]
    exact hk
def W_are_lines : List SV → Amb → KA → Prop := fun ss A k => ∃ ws : List Str, ss = [.dat (.list (ws.map .str))] ∧ 2 ≤ ws.length ∧ ws.length ≤ 8 ∧ (∀ w ∈ ws, IsName w) ∧ k A (.dat (.bool true))
theorem ok_are_lines (T : Tx w K mg) : FnOk P w K mg base CX0 2 T.f_are_lines T.d_are_lines ["thing"] (spW K (W_are_lines)) := by
  refine fn_go T.F_are_lines sc_are_lines (fun ss A k h => ?_) (fun cdv A outer s H E hr => ?_)
  · obtain ⟨i, rfl, _⟩ := h; rfl
  · have hu : (A.deeper (PyProof.Rows.envOfC "are_lines" (defScope s_are_lines) s.heap.objs.size T.f_are_lines cdv)).units + 65 < cLine := by have := hr.un; omega
    have hu1 := hu_of hr
    refine ⟨_, (pss_cons (ps_if (PW.pt (pw_or (pt_not (pt_val (pe_callB (call_isiTK K) (by rfl) T.n_isinstance (by decide +kernel) (pa_cons (pv 0) (pa_cons (pe_tup (pa_cons (pe_bltn (v := .ty "list") (by rfl) T.n_list (by decide +kernel) rfl) (pa_cons (pe_bltn (v := .ty "tuple") (by rfl) T.n_tuple (by decide +kernel) rfl) pa_nil))) pa_nil))))) (pw_or1 (pt_not (pt_chain op_le op_le (pe_glob (v := .int (2)) rfl T.m_FEWEST_LINES ⟨_, rfl⟩) (pe_callB (call_lenK K) (by rfl) T.n_len (by decide +kernel) (pa_cons (pv 0) pa_nil)) (pe_glob (v := .int (8)) rfl T.m_MOST_LINES ⟨_, rfl⟩))))))
        (pss_one (ps_ret pe_bl))
        pss_nil)
      (pss_one (ps_ret (pe_callB (cr_allK K rfl) (by rfl) T.n_all (by decide +kernel) (pa_cons (pe_lc (own := [("one", 1)]) rfl sc_are_lines.nd (pi_listK K (pv 0)) (blkOk_by (own := [("one", 1)]) (N := NN_are_lines) (sc := (defScope s_are_lines)) (by decide +kernel)) (fun _ _ _ _ _ => (pg_name (i := 1) sc_are_lines.nd rfl (by first | exact Or.inl rfl | exact Or.inr rfl))) (fun _ _ _ _ _ => pts_nil) (fun _ _ _ _ _ => (pe_call (ok_is_name T) (hr.mono (by decide)) (by rfl) T.g_is_name T.F_is_name.kp T.b_is_name .nil pass0 (pa_cons (pv 1) pa_nil)))) pa_nil))))), ?_⟩
    rintro ss A k ⟨i, rfl, hk⟩
    (try dsimp only [cxK] at hk); (try dsimp only [cxK])
    change Go _ _ _ [_, SV.no] _
    obtain ⟨h2, h8, hn, hk⟩ := hk
    walk_at "wp"
    refine wpt_or ?_
    walk_at "wp"
    refine ⟨fun e => absurd e (by simp [isK, PyData.isList]), fun _ => ?_⟩
    walk_at "wp"
    refine cw_lenL ?_
    rw [List.length_map]
    walk_at "wp"
    refine ⟨fun _ => ?_, fun e => absurd e (by simp; omega)⟩
    walk_at "wp"
    refine ⟨fun e => absurd e (by simp; omega), fun _ => ?_⟩
    walk_at "wp"
    refine wp_lcA (enc := PyData.str) (xs := i) (by walk_at "to") (fun _ => .bool true) (sz (by omega)) ?_
    refine iw_list ?_
    walk_at "wp"
    refine ⟨rfl, fun w hw => ?_, ?_⟩
    · walk_at "wp"
      exact ⟨hn w hw, rfl, rfl⟩
    walk_at "wp"
    have e : (i.map fun _ => PyData.bool true) = (i.map fun _ => true).map PyData.bool := by rw [List.map_map]; rfl
    rw [e]
    refine cw_all ?_
    rw [all_true]
    exact hk
def W_Plan___init__ : Addr → List SV → Amb → KA → Prop := fun C ss A k => ∃ x : Addr × Addr × List Str × List Str, ss = [.ptr x.1, .dat (.list (x.2.2.1.map .str)), .dat (.list (x.2.2.2.map .str))] ∧ Shape x.2.2.1 x.2.2.2 ∧ ∃ (I : Blk) (l : List (Addr × Cell)), A = ⟨I, (x.1, .ins C x.2.1 []) :: l⟩ ∧ k ⟨I, (x.1, .ins C x.2.1 (planF x.2.2.1 x.2.2.2)) :: l⟩ (.dat .none)
theorem ok_Plan___init__ (T : Tx w K mg) : FnOk P w K mg base CX0 3 T.f_Plan___init__ T.d_Plan___init__ ["self", "uprights", "levels"] (spW K (W_Plan___init__ T.C_Plan)) := by
  refine fn_go T.F_Plan___init__ sc_Plan___init__ (fun ss A k h => ?_) (fun cdv A outer s H E hr => ?_)
  · obtain ⟨i, rfl, _⟩ := h; rfl
  · have hu : (A.deeper (PyProof.Rows.envOfC "Plan.__init__" (defScope s_Plan___init__) s.heap.objs.size T.f_Plan___init__ cdv)).units + 65 < cLine := by have := hr.un; omega
    have hu1 := hu_of hr
    refine ⟨_, (pss_cons (ps_if (PW.pt (pw_or (pt_not (pt_val (pe_call (ok_are_lines T) (hr.mono (by decide)) (by rfl) T.g_are_lines T.F_are_lines.kp T.b_are_lines .nil pass0 (pa_cons (pv 1) pa_nil)))) (pw_or1 (pt_not (pt_val (pe_call (ok_are_lines T) (hr.mono (by decide)) (by rfl) T.g_are_lines T.F_are_lines.kp T.b_are_lines .nil pass0 (pa_cons (pv 2) pa_nil)))))))
        (pss_one ps_never)
        pss_nil)
      (pss_cons (ps_set (i := 3) sc_Plan___init__.nd rfl (Or.inl rfl) (pe_op op_cat (pe_callTy (call_listK K) (by rfl) T.n_list (by decide +kernel) (pa_cons (pv 1) pa_nil)) (pe_callTy (call_listK K) (by rfl) T.n_list (by decide +kernel) (pa_cons (pv 2) pa_nil))))
      (pss_cons (ps_if (pt_cmpR (op_neK K hu) (pe_lenSetXK K rfl (by rfl) T.n_len (by rfl) T.n_set (pv 3)) (pe_callB (call_lenK K) (by rfl) T.n_len (by decide +kernel) (pa_cons (pv 3) pa_nil)) (nomark _))
        (pss_one ps_never)
        pss_nil)
      (pss_one (ps_fld (pv 0) (pe_tup (pa_cons (pe_callTy (call_tupK K) (by rfl) T.n_tuple (by decide +kernel) (pa_cons (pv 1) pa_nil)) (pa_cons (pe_callTy (call_tupK K) (by rfl) T.n_tuple (by decide +kernel) (pa_cons (pv 2) pa_nil)) pa_nil))) rfl))))), ?_⟩
    rintro ss A k ⟨⟨p, dx, a, b⟩, rfl, hk⟩
    (try dsimp only [cxK] at hk); (try dsimp only [cxK])
    change Go _ _ _ [_, _, _, SV.no] _
    obtain ⟨hS, I, l, rfl, hk⟩ := hk
    walk_at "wp"
    refine wpt_or ?_
    walk_at "wp"
    refine ⟨hS.a2, hS.a8, fun w hw => hS.nm w (List.mem_append_left _ hw), ?_⟩
    walk_at "wp"
    refine ⟨fun e => absurd e (by simp), fun _ => ?_⟩
    walk_at "wp"
    refine ⟨hS.b2, hS.b8, fun w hw => hS.nm w (List.mem_append_right _ hw), ?_⟩
    walk_at "wp"
    refine ⟨fun e => absurd e (by simp), fun _ => ?_⟩
    walk_at "wp"
    refine cw_frz (cw_listD (.inl rfl) fun z => ⟨z, _, _, rfl, .head, ?_⟩)
    walk_at "wp"
    refine cw_frz (cw_listD (.inl rfl) fun z => ⟨z, _, _, rfl, .head, ?_⟩)
    have h1 := hS.a8
    have h2 := hS.b8
    refine rw_cat (by rw [List.length_map, List.length_map]; exact sz (by omega)) ?_
    rw [← List.map_append]
    walk_at "wp"
    refine wp_lenSet ?_
    walk_at "wp"
    refine ⟨by rw [List.length_append]; omega, hS.nd, ?_⟩
    walk_at "wp"
    refine cw_lenL ?_
    rw [List.length_map]
    walk_at "wp"
    refine ⟨fun e => absurd e (by simp [PyData.eqv]), fun _ => ?_⟩
    walk_at "wp"
    refine cw_tupD (.inl rfl) ?_
    walk_at "wp"
    refine cw_tupD (.inl rfl) ?_
    walk_at "wp"
    refine ⟨_, _, _, _, _, rfl, T.cl_Plan, T.na_Plan_families, by decide, Upd.head, ?_⟩
    exact hk
def W_Plan_lines : Addr → List SV → Amb → KA → Prop := fun C ss A k => ∃ x : Addr × List Str × List Str × Nat, ss = [.ptr x.1, .dat (.int x.2.2.2)] ∧ isPlan C A x.1 x.2.1 x.2.2.1 ∧ ∃ fam, [x.2.1, x.2.2.1][x.2.2.2]? = some fam ∧ k A (.dat (.tuple (fam.map .str)))
theorem ok_Plan_lines (T : Tx w K mg) : FnOk P w K mg base CX0 1 T.f_Plan_lines T.d_Plan_lines ["self", "family"] (spW K (W_Plan_lines T.C_Plan)) := by
  refine fn_go T.F_Plan_lines sc_Plan_lines (fun ss A k h => ?_) (fun cdv A outer s H E hr => ?_)
  · obtain ⟨i, rfl, _⟩ := h; rfl
  · have hu : (A.deeper (PyProof.Rows.envOfC "Plan.lines" (defScope s_Plan_lines) s.heap.objs.size T.f_Plan_lines cdv)).units + 65 < cLine := by have := hr.un; omega
    have hu1 := hu_of hr
    refine ⟨_, (pss_one (ps_ret (pe_ix (ixK K) (pe_fldK K (pv 0) rfl) (pv 1) (fun _ _ => rfl)))), ?_⟩
    rintro ss A k ⟨⟨p, a, b, f⟩, rfl, hk⟩
    (try dsimp only [cxK] at hk); (try dsimp only [cxK])
    change Go _ _ _ [_, _] _
    obtain ⟨⟨dx, hp⟩, fam, hf, hk⟩ := hk
    walk_at "wp"
    refine wp_fld ?_
    walk_at "wp"
    refine ⟨_, _, _, _, _, rfl, hp, T.cl_Plan, T.na_Plan_families, rfl, ?_⟩
    walk_at "wp"
    refine rw_ixT (ds := [.tuple (a.map .str), .tuple (b.map .str)]) (d := .tuple (fam.map .str)) ?_ hk
    match f, hf with
    | 0, hf => cases hf; rfl
    | 1, hf => cases hf; rfl
    | n + 2, hf => cases hf
def W_bound_text : List SV → Amb → KA → Prop := fun ss A k => ∃ o : Option Int, ss = [.dat (bndD o)] ∧ smallO o ∧ k A (.dat (.str (bndS o)))
theorem ok_bound_text (T : Tx w K mg) : FnOk P w K mg base CX0 1 T.f_bound_text T.d_bound_text ["bound"] (spW K (W_bound_text)) := by
  refine fn_go T.F_bound_text sc_bound_text (fun ss A k h => ?_) (fun cdv A outer s H E hr => ?_)
  · obtain ⟨i, rfl, _⟩ := h; rfl
  · have hu : (A.deeper (PyProof.Rows.envOfC "bound_text" (defScope s_bound_text) s.heap.objs.size T.f_bound_text cdv)).units + 65 < cLine := by have := hr.un; omega
    have hu1 := hu_of hr
    refine ⟨_, (pss_one (ps_ret (pe_ifExp (pt_cmpR op_isN1 (pv 0) pe_non (nomark _)) (pe_glob (v := .str "-") rfl T.m_NOTHING ⟨_, rfl⟩) (pe_callTy call_strU (by rfl) T.n_str (by decide +kernel) (pa_cons (pv 0) pa_nil))))), ?_⟩
    rintro ss A k ⟨i, rfl, hk⟩
    (try dsimp only [cxK] at hk); (try dsimp only [cxK])
    change Go _ _ _ [_] _
    obtain ⟨ho, hk⟩ := hk
    cases i with
    | none =>
      walk_at "go"
      exact hk
    | some j =>
      have hj := ho j rfl
      walk_at "go"
      refine cw_strU (i := j) rfl ?_ hk
      by_cases z : j.natAbs = 0
      · rw [z]; decide
      · have := (Nat.log2_lt z (k := 400)).mpr (Nat.lt_trans hj (by decide))
        omega
def W_sight_text : List SV → Amb → KA → Prop := fun ss A k => ∃ x : Str × Str × Option Int × Option Int, ss = [.dat (.tuple [.str x.1, .str x.2.1, bndD x.2.2.1, bndD x.2.2.2])] ∧ IsName x.1 ∧ IsName x.2.1 ∧ smallO x.2.2.1 ∧ smallO x.2.2.2 ∧ k A (.dat (.str (sightS x.1 x.2.1 x.2.2.1 x.2.2.2)))
theorem ok_sight_text (T : Tx w K mg) : FnOk P w K mg base CX0 2 T.f_sight_text T.d_sight_text ["sight"] (spW K (W_sight_text)) := by
  refine fn_go T.F_sight_text sc_sight_text (fun ss A k h => ?_) (fun cdv A outer s H E hr => ?_)
  · obtain ⟨i, rfl, _⟩ := h; rfl
  · have hu : (A.deeper (PyProof.Rows.envOfC "sight_text" (defScope s_sight_text) s.heap.objs.size T.f_sight_text cdv)).units + 65 < cLine := by have := hr.un; omega
    have hu1 := hu_of hr
    refine ⟨_, (pss_cons (ps_asg (pv 0) (pg_tupSK K 2 rfl (pgs_cons (pg_name (i := 1) sc_sight_text.nd rfl (Or.inl rfl)) (pgs_cons (pg_name (i := 2) sc_sight_text.nd rfl (Or.inl rfl)) (pg_star (pg_name (i := 3) sc_sight_text.nd rfl (Or.inl rfl)))))))
      (pss_one (ps_ret (pe_bmK K PySem.F.plainAttrs_str PySem.F.slot_str_join PySem.F.type_str_join (mt_joinK K) pe_str (pa_cons (pe_op op_cat (pe_lst (pa_cons (pv 1) (pa_cons (pv 2) pa_nil))) (pe_lc (own := [("bound", 4)]) rfl sc_sight_text.nd (pi_listK K (pv 3)) (blkOk_by (own := [("bound", 4)]) (N := NN_sight_text) (sc := (defScope s_sight_text)) (by decide +kernel)) (fun _ _ _ _ _ => (pg_name (i := 4) sc_sight_text.nd rfl (by first | exact Or.inl rfl | exact Or.inr rfl))) (fun _ _ _ _ _ => pts_nil) (fun _ _ _ _ _ => (pe_call (ok_bound_text T) (hr.mono (by decide)) (by rfl) T.g_bound_text T.F_bound_text.kp T.b_bound_text .nil pass0 (pa_cons (pv 4) pa_nil))))) pa_nil))))), ?_⟩
    rintro ss A k ⟨⟨a, b, lo, hi⟩, rfl, hk⟩
    (try dsimp only [cxK] at hk); (try dsimp only [cxK])
    change Go _ _ _ [_, SV.no, SV.no, SV.no, SV.no] _
    obtain ⟨ha, hb, hlo, hhi, hk⟩ := hk
    walk_at "go"
    refine gw_tupS (by simp) ?_
    walk_at "go"
    refine wp_join1 ?_
    walk_at "go"
    refine wp_lcA (enc := bndD) (xs := [lo, hi]) (by walk_at "to") (fun o => .str (bndS o)) (sz (by simp)) ?_
    refine iw_list ?_
    walk_at "go"
    refine ⟨rfl, fun o ho => ?_, ?_⟩
    · walk_at "go"
      refine ⟨?_, rfl, rfl⟩
      simp only [List.mem_cons, List.not_mem_nil, or_false] at ho
      rcases ho with rfl | rfl
      · exact hlo
      · exact hhi
    walk_at "go"
    refine rw_cat (sz (by simp)) ?_
    refine ⟨[a, b, bndS lo, bndS hi], rfl, ?_, hk⟩
    have e1 : (" " : Str).length = 1 := by decide +kernel
    have := ha.hi
    have := hb.hi
    have := bnd_len hlo
    have := bnd_len hhi
    simp only [List.map_cons, List.map_nil, List.sum_cons, List.sum_nil, List.length_cons, List.length_nil, e1]
    omega
def W_number_by : List SV → Amb → KA → Prop := fun ss A k => ∃ o : Option Nat, ss = [.dat (.str (numO o))] ∧ (∀ n, o = some n → n < BIG) ∧ k A (.dat (numOD o))
theorem ok_number_by (T : Tx w K mg) : FnOk P w K mg base CX0 1 T.f_number_by T.d_number_by ["word"] (spW K (W_number_by)) := by
  refine fn_go T.F_number_by sc_number_by (fun ss A k h => ?_) (fun cdv A outer s H E hr => ?_)
  · obtain ⟨i, rfl, _⟩ := h; rfl
  · have hu : (A.deeper (PyProof.Rows.envOfC "number_by" (defScope s_number_by) s.heap.objs.size T.f_number_by cdv)).units + 65 < cLine := by have := hr.un; omega
    have hu1 := hu_of hr
    refine ⟨_, (pss_cons (ps_if (PW.pt (pw_or (pt_not (pt_chain op_le op_le pe_int (pe_callB (call_lenK K) (by rfl) T.n_len (by decide +kernel) (pa_cons (pv 0) pa_nil)) (pe_glob (v := .int (40)) rfl T.m_MOST_FIGURES ⟨_, rfl⟩))) (pw_or1 (pt_not (pt_val (pe_callB (cr_allK K rfl) (by rfl) T.n_all (by decide +kernel) (pa_cons (pe_lc (own := [("sign", 1)]) rfl sc_number_by.nd (pi_str (pv 0)) (blkOk_by (own := [("sign", 1)]) (N := NN_number_by) (sc := (defScope s_number_by)) (by decide +kernel)) (fun _ _ _ _ _ => (pg_name (i := 1) sc_number_by.nd rfl (by first | exact Or.inl rfl | exact Or.inr rfl))) (fun _ _ _ _ _ => pts_nil) (fun _ _ _ _ _ => (pe_cmpR op_inC (pv 1) (pe_glob (v := .str "0123456789") rfl T.m_FIGURES ⟨_, rfl⟩) rfl))) pa_nil)))))))
        (pss_one (ps_ret pe_non))
        pss_nil)
      (pss_one (ps_ret (pe_ifExp (PW.pt (pw_or (pt_cmpR op_eq (pv 0) pe_str (nomark _)) (pw_or1 (pt_cmpR op_ne (pe_ix (ixK K) (pv 0) pe_int (fun _ _ => rfl)) pe_str (nomark _))))) (pe_callTy call_intS (by rfl) T.n_int (by decide +kernel) (pa_cons (pv 0) pa_nil)) pe_non)))), ?_⟩
    rintro ss A k ⟨i, rfl, hk⟩
    (try dsimp only [cxK] at hk); (try dsimp only [cxK])
    change Go _ _ _ [_, SV.no] _
    obtain ⟨ho, hk⟩ := hk
    cases i with
    | none =>
      have e0 : (numO none).length = 0 := by decide +kernel
      walk_at "go"
      refine cw_lenX (by rw [e0]; exact sz (by decide)) ?_
      rw [e0]
      walk_at "go"
      exact hk
    | some n =>
      have hn := ho n rfl
      obtain ⟨l1, l2⟩ := num_len hn
      change k A (.dat (.int n)) at hk
      show Go _ _ _ [.dat (.str (numS n)), .no] _
      have hz : (numS n).length ≤ sizeLine := sz (by omega)
      walk_at "go"
      refine cw_lenX hz ?_
      walk_at "go"
      refine wp_lcA (enc := sig1) (xs := (numS n).cps.toList) (by walk_at "to") (fun _ => .bool true) (by rw [Array.length_toList]; exact hz) ?_
      refine iw_str ?_
      walk_at "go"
      refine ⟨rfl, fun c hc => ?_, ?_⟩
      · walk_at "go"
        refine ⟨rfl, ?_⟩
        have hc : c ∈ TL.tl (numS n) := hc
        rw [tl_numS] at hc
        rw [decide_eq_true (fig_mem (TL.numL_digits n c hc))]
      walk_at "go"
      have e : ((numS n).cps.toList.map fun _ => PyData.bool true) = ((numS n).cps.toList.map fun _ => true).map PyData.bool := by rw [List.map_map]; rfl
      rw [e]
      refine cw_all ?_
      rw [all_true]
      walk_at "go"
      refine ⟨fun _ => ?_, fun h0 => ?_⟩
      · walk_at "go"
        refine cw_intS (num_int hn) (by omega) ?_
        exact hk
      · have h0 : numS n ≠ "0" := of_decide_eq_false h0
        have hp : 0 < n := Nat.pos_of_ne_zero fun z => h0 (by rw [z]; decide +kernel)
        obtain ⟨c, cs, e, hc⟩ := numL_head n hp
        have e2 : (numS n).cps.toList = c :: cs := (tl_numS n).trans e
        walk_at "go"
        refine rw_ixX hz (c := c) (by rw [e2]; exact atI_at (by decide) rfl) ?_
        walk_at "go"
        refine ⟨fun _ => ?_, fun h => ?_⟩
        · walk_at "go"
          refine cw_intS (num_int hn) (by omega) ?_
          exact hk
        · have h := congrArg (fun z : Str => z.cps.toList) (of_decide_eq_true (by simpa using h) : (⟨#[c]⟩ : Str) = "0")
          have e3 : ("0" : Str).cps.toList = [48] := by decide +kernel
          simp only [e3] at h
          exact absurd (by simpa using h) hc
def W_whole_by : List SV → Amb → KA → Prop := fun ss A k => ∃ o : Option Int, ss = [.dat (.str (bndS o))] ∧ smallO o ∧ k A (.dat (bndD o))
theorem ok_whole_by (T : Tx w K mg) : FnOk P w K mg base CX0 2 T.f_whole_by T.d_whole_by ["word"] (spW K (W_whole_by)) := by
  refine fn_go T.F_whole_by sc_whole_by (fun ss A k h => ?_) (fun cdv A outer s H E hr => ?_)
  · obtain ⟨i, rfl, _⟩ := h; rfl
  · have hu : (A.deeper (PyProof.Rows.envOfC "whole_by" (defScope s_whole_by) s.heap.objs.size T.f_whole_by cdv)).units + 65 < cLine := by have := hr.un; omega
    have hu1 := hu_of hr
    refine ⟨_, (pss_cons (ps_if (pt_cmpR op_ne (pe_slice sl_str (pv 0) po_none (po_some pe_int)) (pe_glob (v := .str "-") rfl T.m_NOTHING ⟨_, rfl⟩) (nomark _))
        (pss_one (ps_ret (pe_call (ok_number_by T) (hr.mono (by decide)) (by rfl) T.g_number_by T.F_number_by.kp T.b_number_by .nil pass0 (pa_cons (pv 0) pa_nil))))
        pss_nil)
      (pss_cons (ps_set (i := 1) sc_whole_by.nd rfl (Or.inl rfl) (pe_call (ok_number_by T) (hr.mono (by decide)) (by rfl) T.g_number_by T.F_number_by.kp T.b_number_by .nil pass0 (pa_cons (pe_slice sl_str (pv 0) (po_some pe_int) po_none) pa_nil)))
      (pss_one (ps_ret (pe_ifExp (PW.pt (pw_or (pt_cmpR op_isN1 (pv 1) pe_non (nomark _)) (pw_or1 (pt_cmpR (op_eqK K hu) (pv 1) pe_int (nomark _))))) pe_non (pe_un un_neg (pv 1))))))), ?_⟩
    rintro ss A k ⟨i, rfl, hk⟩
    (try dsimp only [cxK] at hk); (try dsimp only [cxK])
    change Go _ _ _ [_, SV.no] _
    obtain ⟨ho, hk⟩ := hk
    cases i with
    | none =>
      have e1 : cutS (bndS none) none (some 1) = "-" := by decide +kernel
      have e2 : cutS (bndS none) (some 1) none = "" := by decide +kernel
      walk_at "go"
      refine sw_str (by decide +kernel) ?_
      rw [e1]
      walk_at "go"
      refine sw_str (by decide +kernel) ?_
      rw [e2]
      walk_at "go"
      refine ⟨none, rfl, fun n h => (by cases h), ?_⟩
      walk_at "go"
      exact hk
    | some j =>
      have hj := ho j rfl
      have hz : (bndS (some j)).length ≤ sizeLine := sz (by have := (dec_len hj).2; show (decS j).length ≤ _; omega)
      by_cases h0 : 0 ≤ j
      · have e0 : bndS (some j) = numS j.toNat := dec_pos h0
        obtain ⟨c, cs, e⟩ := List.exists_cons_of_ne_nil (TL.numL_ne j.toNat)
        have hc : c ≠ 45 := fun z => TL.numL_free (n := j.toNat) (s := 45) (by decide) (by rw [e, z]; simp)
        have e1 : (cutS (bndS (some j)) none (some 1)).cps.toList = [c] := by
          rw [e0]
          have := slice_tl1 (numS j.toNat) (c := c) (cs := cs) ((tl_numS _).trans e)
          exact this
        walk_at "go"
        refine sw_str hz ?_
        walk_at "go"
        refine ⟨fun _ => ?_, fun h => ?_⟩
        · rw [e0]
          walk_at "go"
          refine ⟨some j.toNat, rfl, fun n h => by cases h; omega, ?_⟩
          have e5 : numOD (some j.toNat) = bndD (some j) := by
            show PyData.int ((j.toNat : Nat) : Int) = .int j
            rw [Int.toNat_of_nonneg h0]
          rw [e5]
          exact hk
        · exfalso
          have h := congrArg (fun z : Str => z.cps.toList) (of_decide_eq_true (by simpa using h) : cutS (bndS (some j)) none (some 1) = "-")
          have e3 : ("-" : Str).cps.toList = [45] := by decide +kernel
          simp only [e1, e3] at h
          exact hc (by simpa using h)
      · have hneg : j < 0 := by omega
        have et := tl_dec_neg hneg
        have e1 : cutS (bndS (some j)) none (some 1) = "-" := str_eq (by
          show (cutS (decS j) none (some 1)).cps.toList = _
          rw [slice_tl1 (decS j) et]
          decide +kernel)
        have e2 : cutS (bndS (some j)) (some 1) none = numS j.natAbs := str_eq (by
          show (cutS (decS j) (some 1) none).cps.toList = _
          rw [slice_tl2 (decS j) et]
          exact (tl_numS _).symm)
        walk_at "go"
        refine sw_str hz ?_
        rw [e1]
        walk_at "go"
        refine sw_str hz ?_
        rw [e2]
        walk_at "go"
        refine ⟨some j.natAbs, rfl, fun n h => by cases h; exact hj, ?_⟩
        have e7 : numOD (some j.natAbs) = .int ((j.natAbs : Nat) : Int) := rfl
        rw [e7]
        have hne : ¬ ((j.natAbs : Nat) : Int) = 0 := by omega
        walk_at "go"
        have e6 : -((j.natAbs : Nat) : Int) = j := by omega
        rw [e6]
        exact hk
def W_is_bound_word : List SV → Amb → KA → Prop := fun ss A k => ∃ o : Option Int, ss = [.dat (.str (bndS o))] ∧ smallO o ∧ k A (.dat (.bool true))
theorem ok_is_bound_word (T : Tx w K mg) : FnOk P w K mg base CX0 3 T.f_is_bound_word T.d_is_bound_word ["word"] (spW K (W_is_bound_word)) := by
  refine fn_go T.F_is_bound_word sc_is_bound_word (fun ss A k h => ?_) (fun cdv A outer s H E hr => ?_)
  · obtain ⟨i, rfl, _⟩ := h; rfl
  · have hu : (A.deeper (PyProof.Rows.envOfC "is_bound_word" (defScope s_is_bound_word) s.heap.objs.size T.f_is_bound_word cdv)).units + 65 < cLine := by have := hr.un; omega
    have hu1 := hu_of hr
    refine ⟨_, (pss_one (ps_ret (pe_or (pe_cmpR op_eq (pv 0) (pe_glob (v := .str "-") rfl T.m_NOTHING ⟨_, rfl⟩) (nomark _)) (pe_one (pe_cmpR op_notN1 (pe_call (ok_whole_by T) (hr.mono (by decide)) (by rfl) T.g_whole_by T.F_whole_by.kp T.b_whole_by .nil pass0 (pa_cons (pv 0) pa_nil)) pe_non (nomark _)))))), ?_⟩
    rintro ss A k ⟨i, rfl, hk⟩
    (try dsimp only [cxK] at hk); (try dsimp only [cxK])
    change Go _ _ _ [_] _
    obtain ⟨ho, hk⟩ := hk
    cases i with
    | none =>
      walk_at "go"
      exact hk
    | some j =>
      have hne : bndS (some j) ≠ "-" := dec_ne
      walk_at "go"
      refine ⟨ho, ?_⟩
      walk_at "go"
      exact hk
def W_read_sight : List SV → Amb → KA → Prop := fun ss A k => ∃ x : Str × Str × Str × Option Int × Option Int, ss = [.dat (.str x.1)] ∧ sightS x.2.1 x.2.2.1 x.2.2.2.1 x.2.2.2.2 = x.1 ∧ IsName x.2.1 ∧ IsName x.2.2.1 ∧ smallO x.2.2.2.1 ∧ smallO x.2.2.2.2 ∧ k A (.dat (.tuple [.str x.2.1, .str x.2.2.1, bndD x.2.2.2.1, bndD x.2.2.2.2]))
theorem ok_read_sight (T : Tx w K mg) : FnOk P w K mg base CX0 4 T.f_read_sight T.d_read_sight ["text"] (spW K (W_read_sight)) := by
  refine fn_go T.F_read_sight sc_read_sight (fun ss A k h => ?_) (fun cdv A outer s H E hr => ?_)
  · obtain ⟨i, rfl, _⟩ := h; rfl
  · have hu : (A.deeper (PyProof.Rows.envOfC "read_sight" (defScope s_read_sight) s.heap.objs.size T.f_read_sight cdv)).units + 65 < cLine := by have := hr.un; omega
    have hu1 := hu_of hr
    refine ⟨_, (pss_cons (ps_set (i := 1) sc_read_sight.nd rfl (Or.inl rfl) (pe_ifExp (pt_val (pe_callB (call_isiK2 K) (by rfl) T.n_isinstance (by decide +kernel) (pa_cons (pv 0) (pa_cons (pe_bltn (v := .ty "str") (by rfl) T.n_str (by decide +kernel) rfl) pa_nil)))) (pe_bmK K PySem.F.plainAttrs_str PySem.F.slot_str_split PySem.F.type_str_split mt_splitW (pv 0) (pa_cons pe_str pa_nil)) (pe_lst pa_nil)))
      (pss_cons (ps_if (PW.pt (pw_or (pt_cmpR (op_neK K hu) (pe_callB (call_lenK K) (by rfl) T.n_len (by decide +kernel) (pa_cons (pv 1) pa_nil)) pe_int (nomark _)) (pw_or1 (pt_not (pt_val (pe_callB (cr_allK K rfl) (by rfl) T.n_all (by decide +kernel) (pa_cons (pe_lc (own := [("word", 2)]) rfl sc_read_sight.nd (pi_listK K (pe_slice (sl_listK K) (pv 1) po_none (po_some pe_int))) (blkOk_by (own := [("word", 2)]) (N := NN_read_sight) (sc := (defScope s_read_sight)) (by decide +kernel)) (fun _ _ _ _ _ => (pg_name (i := 2) sc_read_sight.nd rfl (by first | exact Or.inl rfl | exact Or.inr rfl))) (fun _ _ _ _ _ => pts_nil) (fun _ _ _ _ _ => (pe_call (ok_is_name T) (hr.mono (by decide)) (by rfl) T.g_is_name T.F_is_name.kp T.b_is_name .nil pass0 (pa_cons (pv 2) pa_nil)))) pa_nil)))))))
        (pss_one ps_never)
        pss_nil)
      (pss_cons (ps_if (pt_not (pt_val (pe_callB (cr_allK K rfl) (by rfl) T.n_all (by decide +kernel) (pa_cons (pe_lc (own := [("word", 2)]) rfl sc_read_sight.nd (pi_listK K (pe_slice (sl_listK K) (pv 1) (po_some pe_int) po_none)) (blkOk_by (own := [("word", 2)]) (N := NN_read_sight) (sc := (defScope s_read_sight)) (by decide +kernel)) (fun _ _ _ _ _ => (pg_name (i := 2) sc_read_sight.nd rfl (by first | exact Or.inl rfl | exact Or.inr rfl))) (fun _ _ _ _ _ => pts_nil) (fun _ _ _ _ _ => (pe_call (ok_is_bound_word T) (hr.mono (by decide)) (by rfl) T.g_is_bound_word T.F_is_bound_word.kp T.b_is_bound_word .nil pass0 (pa_cons (pv 2) pa_nil)))) pa_nil))))
        (pss_one ps_never)
        pss_nil)
      (pss_one (ps_ret (pe_callTy (call_tupK K) (by rfl) T.n_tuple (by decide +kernel) (pa_cons (pe_op op_cat (pe_slice (sl_listK K) (pv 1) po_none (po_some pe_int)) (pe_lc (own := [("word", 2)]) rfl sc_read_sight.nd (pi_listK K (pe_slice (sl_listK K) (pv 1) (po_some pe_int) po_none)) (blkOk_by (own := [("word", 2)]) (N := NN_read_sight) (sc := (defScope s_read_sight)) (by decide +kernel)) (fun _ _ _ _ _ => (pg_name (i := 2) sc_read_sight.nd rfl (by first | exact Or.inl rfl | exact Or.inr rfl))) (fun _ _ _ _ _ => pts_nil) (fun _ _ _ _ _ => (pe_call (ok_whole_by T) (hr.mono (by decide)) (by rfl) T.g_whole_by T.F_whole_by.kp T.b_whole_by .nil pass0 (pa_cons (pv 2) pa_nil))))) pa_nil))))))), ?_⟩
    rintro ss A k ⟨⟨z, a, b, lo, hi⟩, rfl, hk⟩
    (try dsimp only [cxK] at hk); (try dsimp only [cxK])
    change Go _ _ _ [_, SV.no, SV.no] _
    obtain ⟨hz, ha, hb, hlo, hhi, hk⟩ := hk
    have hz : sightS a b lo hi = z := hz
    subst hz
    walk_at "go"
    refine wp_split ?_
    walk_at "go"
    refine ⟨by decide +kernel, sz (by have := sight_len ha hb hlo hhi; omega), ?_⟩
    rw [sight_split ha hb]
    walk_at "go"
    refine wp_lcA (enc := PyData.str) (xs := [a, b]) (by walk_at "to") (fun _ => .bool true) (sz (by simp)) ?_
    refine iw_list ?_
    walk_at "go"
    refine ⟨rfl, fun w hw => ?_, ?_⟩
    · walk_at "go"
      refine ⟨?_, rfl, rfl⟩
      simp only [List.mem_cons, List.not_mem_nil, or_false] at hw
      rcases hw with rfl | rfl
      · exact ha
      · exact hb
    walk_at "go"
    refine cw_all (bs := [true, true]) ?_
    walk_at "go"
    refine wp_lcA (enc := fun o => PyData.str (bndS o)) (xs := [lo, hi]) (by walk_at "to") (fun _ => .bool true) (sz (by simp)) ?_
    refine iw_list ?_
    walk_at "go"
    refine ⟨rfl, fun o ho => ?_, ?_⟩
    · walk_at "go"
      refine ⟨?_, rfl, rfl⟩
      simp only [List.mem_cons, List.not_mem_nil, or_false] at ho
      rcases ho with rfl | rfl
      · exact hlo
      · exact hhi
    walk_at "go"
    refine cw_all (bs := [true, true]) ?_
    walk_at "go"
    refine wp_lcA (enc := fun o => PyData.str (bndS o)) (xs := [lo, hi]) (by walk_at "to") bndD (sz (by simp)) ?_
    refine iw_list ?_
    walk_at "go"
    refine ⟨rfl, fun o ho => ?_, ?_⟩
    · walk_at "go"
      refine ⟨?_, rfl, rfl⟩
      simp only [List.mem_cons, List.not_mem_nil, or_false] at ho
      rcases ho with rfl | rfl
      · exact hlo
      · exact hhi
    walk_at "go"
    refine rw_cat (sz (show 2 + 2 ≤ 100000 by decide)) ?_
    walk_at "go"
    refine cw_tupD (.inl rfl) ?_
    exact hk
def W_aim_text : List SV → Amb → KA → Prop := fun ss A k => ∃ x : Str × Int, ss = [.dat (.tuple [.str x.1, .int x.2])] ∧ IsName x.1 ∧ x.2.natAbs < BIG ∧ k A (.dat (.str (aimS x.1 x.2)))
theorem ok_aim_text (T : Tx w K mg) : FnOk P w K mg base CX0 1 T.f_aim_text T.d_aim_text ["aim"] (spW K (W_aim_text)) := by
  refine fn_go T.F_aim_text sc_aim_text (fun ss A k h => ?_) (fun cdv A outer s H E hr => ?_)
  · obtain ⟨i, rfl, _⟩ := h; rfl
  · have hu : (A.deeper (PyProof.Rows.envOfC "aim_text" (defScope s_aim_text) s.heap.objs.size T.f_aim_text cdv)).units + 65 < cLine := by have := hr.un; omega
    have hu1 := hu_of hr
    refine ⟨_, (pss_cons (ps_asg (pv 0) (pg_tupK K 2 rfl (pgs_cons (pg_name (i := 1) sc_aim_text.nd rfl (Or.inl rfl)) (pgs_cons (pg_name (i := 2) sc_aim_text.nd rfl (Or.inl rfl)) pgs_nil))))
      (pss_one (ps_ret (pe_ifExp (pt_cmpR op_ge (pv 2) pe_int (nomark _)) (pe_joinedT (PJ.cons (pe_fmt (pv 1)) (PJ.cons pe_str (PJ.cons (pe_fmt (pv 2)) PJ.nil)))) (pe_joinedT (PJ.cons (pe_fmt (pv 1)) (PJ.cons (pe_fmt (pv 2)) PJ.nil))))))), ?_⟩
    rintro ss A k ⟨⟨w, i⟩, rfl, hk⟩
    (try dsimp only [cxK] at hk); (try dsimp only [cxK])
    change Go _ _ _ [_, SV.no, SV.no] _
    obtain ⟨hw, hi, hk⟩ := hk
    have h8 := hw.hi
    have hl := (dec_len hi).2
    have e1 : ("+" : Str).length = 1 := by decide +kernel
    walk_at "go"
    refine ⟨fun h => ?_, fun h => ?_⟩
    · have h : 0 ≤ i := of_decide_eq_true h
      refine wp_joined (wpj_cons (wp_fmt ?_))
      walk_at "wp1"
      refine .inl ⟨_, rfl, sz (by omega), _, rfl, by rw [empty_add]; exact sz (by omega), wpj_cons ?_⟩
      rw [empty_add]
      walk_at "wp1"
      refine ⟨_, rfl, by rw [Str.length_append, e1]; exact sz (by omega), wpj_cons (wp_fmt ?_)⟩
      walk_at "wp1"
      refine .inr ⟨_, rfl, log_dec hi, _, rfl, by rw [Str.length_append, Str.length_append, e1]; show w.length + 1 + (decS i).length ≤ _; exact sz (by omega), wpj_nil ?_⟩
      have e : aimS w i = (w ++ "+") ++ decS i := by unfold aimS; rw [if_pos h]
      rw [e] at hk
      exact hk
    · have h : ¬ 0 ≤ i := of_decide_eq_false h
      refine wp_joined (wpj_cons (wp_fmt ?_))
      walk_at "wp1"
      refine .inl ⟨_, rfl, sz (by omega), _, rfl, by rw [empty_add]; exact sz (by omega), wpj_cons (wp_fmt ?_)⟩
      rw [empty_add]
      walk_at "wp1"
      refine .inr ⟨_, rfl, log_dec hi, _, rfl, by rw [Str.length_append]; show w.length + (decS i).length ≤ _; exact sz (by omega), wpj_nil ?_⟩
      have e : aimS w i = w ++ decS i := by unfold aimS; rw [if_neg h]
      rw [e] at hk
      exact hk
def W_point_text : List SV → Amb → KA → Prop := fun ss A k => ∃ x : (Str × Int) × (Str × Int), ss = [.dat (.tuple [.tuple [.str x.1.1, .int x.1.2], .tuple [.str x.2.1, .int x.2.2]])] ∧ IsName x.1.1 ∧ IsName x.2.1 ∧ x.1.2.natAbs < BIG ∧ x.2.2.natAbs < BIG ∧ k A (.dat (.str (pointS x.1 x.2)))
theorem ok_point_text (T : Tx w K mg) : FnOk P w K mg base CX0 2 T.f_point_text T.d_point_text ["point"] (spW K (W_point_text)) := by
  refine fn_go T.F_point_text sc_point_text (fun ss A k h => ?_) (fun cdv A outer s H E hr => ?_)
  · obtain ⟨i, rfl, _⟩ := h; rfl
  · have hu : (A.deeper (PyProof.Rows.envOfC "point_text" (defScope s_point_text) s.heap.objs.size T.f_point_text cdv)).units + 65 < cLine := by have := hr.un; omega
    have hu1 := hu_of hr
    refine ⟨_, (pss_one (ps_ret (pe_bmK K PySem.F.plainAttrs_str PySem.F.slot_str_join PySem.F.type_str_join (mt_joinK K) pe_str (pa_cons (pe_lc (own := [("aim", 1)]) rfl sc_point_text.nd (pi_tupK K (pv 0)) (blkOk_by (own := [("aim", 1)]) (N := NN_point_text) (sc := (defScope s_point_text)) (by decide +kernel)) (fun _ _ _ _ _ => (pg_name (i := 1) sc_point_text.nd rfl (by first | exact Or.inl rfl | exact Or.inr rfl))) (fun _ _ _ _ _ => pts_nil) (fun _ _ _ _ _ => (pe_call (ok_aim_text T) (hr.mono (by decide)) (by rfl) T.g_aim_text T.F_aim_text.kp T.b_aim_text .nil pass0 (pa_cons (pv 1) pa_nil)))) pa_nil)))), ?_⟩
    rintro ss A k ⟨⟨p, q⟩, rfl, hk⟩
    (try dsimp only [cxK] at hk); (try dsimp only [cxK])
    change Go _ _ _ [_, SV.no] _
    obtain ⟨hp, hq, h1, h2, hk⟩ := hk
    walk_at "go"
    refine wp_join1 ?_
    walk_at "go"
    refine wp_lcA (enc := fun z : Str × Int => PyData.tuple [.str z.1, .int z.2]) (xs := [p, q]) (by walk_at "to") (fun z => .str (aimS z.1 z.2)) (sz (by simp)) ?_
    refine iw_tup ?_
    walk_at "go"
    refine ⟨rfl, fun z hz => ?_, ?_⟩
    · walk_at "go"
      simp only [List.mem_cons, List.not_mem_nil, or_false] at hz
      refine ⟨?_, ?_, rfl, rfl⟩
      · rcases hz with rfl | rfl
        · exact hp
        · exact hq
      · rcases hz with rfl | rfl
        · exact h1
        · exact h2
    walk_at "go"
    refine ⟨[aimS p.1 p.2, aimS q.1 q.2], rfl, ?_, hk⟩
    have e1 : (" " : Str).length = 1 := by decide +kernel
    have := aim_len hp h1
    have := aim_len hq h2
    simp only [List.map_cons, List.map_nil, List.sum_cons, List.sum_nil, List.length_cons, List.length_nil, e1]
    omega
def W_aim_by : List SV → Amb → KA → Prop := fun ss A k => ∃ x : Str × Int, ss = [.dat (.str (aimS x.1 x.2))] ∧ IsName x.1 ∧ x.2.natAbs < BIG ∧ k A (.dat (.tuple [.str x.1, .int x.2]))
theorem ok_aim_by (T : Tx w K mg) : FnOk P w K mg base CX0 3 T.f_aim_by T.d_aim_by ["word"] (spW K (W_aim_by)) := by
  refine fn_go T.F_aim_by sc_aim_by (fun ss A k h => ?_) (fun cdv A outer s H E hr => ?_)
  · obtain ⟨i, rfl, _⟩ := h; rfl
  · have hu : (A.deeper (PyProof.Rows.envOfC "aim_by" (defScope s_aim_by) s.heap.objs.size T.f_aim_by cdv)).units + 65 < cLine := by have := hr.un; omega
    have hu1 := hu_of hr
    refine ⟨_, (pss_cons (ps_asg (pe_bmK K PySem.F.plainAttrs_str PySem.F.slot_str_partition PySem.F.type_str_partition mt_partW (pv 0) (pa_cons pe_str pa_nil)) (pg_tupK K 3 rfl (pgs_cons (pg_name (i := 1) sc_aim_by.nd rfl (Or.inl rfl)) (pgs_cons (pg_name (i := 2) sc_aim_by.nd rfl (Or.inl rfl)) (pgs_cons (pg_name (i := 3) sc_aim_by.nd rfl (Or.inl rfl)) pgs_nil)))))
      (pss_cons (ps_if (pt_cmpR op_ne (pv 2) pe_str (nomark _))
        (pss_one (ps_set (i := 4) sc_aim_by.nd rfl (Or.inl rfl) (pe_call (ok_number_by T) (hr.mono (by decide)) (by rfl) T.g_number_by T.F_number_by.kp T.b_number_by .nil pass0 (pa_cons (pv 3) pa_nil))))
        (pss_cons (ps_asg (pe_bmK K PySem.F.plainAttrs_str PySem.F.slot_str_partition PySem.F.type_str_partition mt_partW (pv 0) (pa_cons (pe_glob (v := .str "-") rfl T.m_NOTHING ⟨_, rfl⟩) pa_nil)) (pg_tupK K 3 rfl (pgs_cons (pg_name (i := 1) sc_aim_by.nd rfl (Or.inl rfl)) (pgs_cons (pg_name (i := 5) sc_aim_by.nd rfl (Or.inl rfl)) (pgs_cons (pg_name (i := 3) sc_aim_by.nd rfl (Or.inl rfl)) pgs_nil)))))
          (pss_one (ps_set (i := 4) sc_aim_by.nd rfl (Or.inl rfl) (pe_ifExp (pt_cmpR op_ne (pv 5) pe_str (nomark _)) (pe_call (ok_whole_by T) (hr.mono (by decide)) (by rfl) T.g_whole_by T.F_whole_by.kp T.b_whole_by .nil pass0 (pa_cons (pe_op op_addS (pv 5) (pv 3)) pa_nil)) pe_non)))))
      (pss_one (ps_ret (pe_ifExp (PW.pt (pw_or (pt_cmpR op_isN1 (pv 4) pe_non (nomark _)) (pw_or1 (pt_not (pt_val (pe_call (ok_is_name T) (hr.mono (by decide)) (by rfl) T.g_is_name T.F_is_name.kp T.b_is_name .nil pass0 (pa_cons (pv 1) pa_nil))))))) pe_non (pe_tup (pa_cons (pv 1) (pa_cons (pv 4) pa_nil)))))))), ?_⟩
    rintro ss A k ⟨⟨w, i⟩, rfl, hk⟩
    (try dsimp only [cxK] at hk); (try dsimp only [cxK])
    change Go _ _ _ [_, SV.no, SV.no, SV.no, SV.no, SV.no] _
    obtain ⟨hw, hi, hk⟩ := hk
    have hl := aim_len hw hi
    walk_at "go"
    refine wp_part ?_
    walk_at "go"
    refine ⟨by decide +kernel, sz (by omega), ?_⟩
    by_cases h : 0 ≤ i
    · rw [aim_pos hw h, dec_pos h]
      walk_at "go"
      refine ⟨some i.toNat, rfl, fun n e => by cases e; omega, ?_⟩
      walk_at "go"
      refine ⟨hw, ?_⟩
      walk_at "go"
      have e : numOD (some i.toNat) = .int i := by
        show PyData.int ((i.toNat : Nat) : Int) = .int i
        rw [Int.toNat_of_nonneg h]
      rw [e]
      exact hk
    · have h : i < 0 := by omega
      have hz : (numS i.natAbs).length ≤ 30 := (num_len hi).2
      have e1 : ("-" : Str).length = 1 := by decide +kernel
      rw [aim_neg1 hw h]
      walk_at "go"
      refine wp_part ?_
      walk_at "go"
      refine ⟨by decide +kernel, sz (by omega), ?_⟩
      rw [aim_neg2 hw h]
      walk_at "go"
      refine rw_addS (sz (by show ("-" : Str).length + (numS i.natAbs).length ≤ 100000; rw [e1]; omega)) ?_
      rw [← dec_minus h]
      walk_at "go"
      refine ⟨some i, rfl, fun n e => by cases e; exact hi, ?_⟩
      walk_at "go"
      refine ⟨hw, ?_⟩
      walk_at "go"
      exact hk
def W_read_point : List SV → Amb → KA → Prop := fun ss A k => ∃ x : Str × (Str × Int) × (Str × Int), ss = [.dat (.str x.1)] ∧ pointS x.2.1 x.2.2 = x.1 ∧ IsName x.2.1.1 ∧ IsName x.2.2.1 ∧ x.2.1.2.natAbs < BIG ∧ x.2.2.2.natAbs < BIG ∧ k A (.dat (.tuple [.tuple [.str x.2.1.1, .int x.2.1.2], .tuple [.str x.2.2.1, .int x.2.2.2]]))
theorem ok_read_point (T : Tx w K mg) : FnOk P w K mg base CX0 4 T.f_read_point T.d_read_point ["text"] (spW K (W_read_point)) := by
  refine fn_go T.F_read_point sc_read_point (fun ss A k h => ?_) (fun cdv A outer s H E hr => ?_)
  · obtain ⟨i, rfl, _⟩ := h; rfl
  · have hu : (A.deeper (PyProof.Rows.envOfC "read_point" (defScope s_read_point) s.heap.objs.size T.f_read_point cdv)).units + 65 < cLine := by have := hr.un; omega
    have hu1 := hu_of hr
    refine ⟨_, (pss_cons (ps_set (i := 1) sc_read_point.nd rfl (Or.inl rfl) (pe_ifExp (pt_val (pe_callB (call_isiK2 K) (by rfl) T.n_isinstance (by decide +kernel) (pa_cons (pv 0) (pa_cons (pe_bltn (v := .ty "str") (by rfl) T.n_str (by decide +kernel) rfl) pa_nil)))) (pe_bmK K PySem.F.plainAttrs_str PySem.F.slot_str_split PySem.F.type_str_split mt_splitW (pv 0) (pa_cons pe_str pa_nil)) (pe_lst pa_nil)))
      (pss_cons (ps_set (i := 2) sc_read_point.nd rfl (Or.inl rfl) (pe_callTy (call_tupK K) (by rfl) T.n_tuple (by decide +kernel) (pa_cons (pe_lc (own := [("word", 3)]) rfl sc_read_point.nd (pi_listK K (pv 1)) (blkOk_by (own := [("word", 3)]) (N := NN_read_point) (sc := (defScope s_read_point)) (by decide +kernel)) (fun _ _ _ _ _ => (pg_name (i := 3) sc_read_point.nd rfl (by first | exact Or.inl rfl | exact Or.inr rfl))) (fun _ _ _ _ _ => pts_nil) (fun _ _ _ _ _ => (pe_call (ok_aim_by T) (hr.mono (by decide)) (by rfl) T.g_aim_by T.F_aim_by.kp T.b_aim_by .nil pass0 (pa_cons (pv 3) pa_nil)))) pa_nil)))
      (pss_cons (ps_if (PW.pt (pw_or (pt_cmpR (op_neK K hu) (pe_callB (call_lenK K) (by rfl) T.n_len (by decide +kernel) (pa_cons (pv 2) pa_nil)) pe_int (nomark _)) (pw_or1 (pt_cmpR (op_inK K hu) pe_non (pv 2) rfl))))
        (pss_one ps_never)
        pss_nil)
      (pss_one (ps_ret (pv 2)))))), ?_⟩
    rintro ss A k ⟨⟨z, p, q⟩, rfl, hk⟩
    (try dsimp only [cxK] at hk); (try dsimp only [cxK])
    change Go _ _ _ [_, SV.no, SV.no, SV.no] _
    obtain ⟨hz, hp, hq, h1, h2, hk⟩ := hk
    have hz : pointS p q = z := hz
    subst hz
    walk_at "go"
    refine wp_split ?_
    walk_at "go"
    refine ⟨by decide +kernel, sz (by have := point_len hp hq h1 h2; omega), ?_⟩
    rw [point_split hp hq]
    walk_at "go"
    refine wp_lcA (enc := fun z : Str × Int => PyData.str (aimS z.1 z.2)) (xs := [p, q]) (by walk_at "to") (fun z => .tuple [.str z.1, .int z.2]) (sz (by simp)) ?_
    refine iw_list ?_
    walk_at "go"
    refine ⟨rfl, fun z hz => ?_, ?_⟩
    · walk_at "go"
      simp only [List.mem_cons, List.not_mem_nil, or_false] at hz
      refine ⟨?_, ?_, rfl, rfl⟩
      · rcases hz with rfl | rfl
        · exact hp
        · exact hq
      · rcases hz with rfl | rfl
        · exact h1
        · exact h2
    walk_at "go"
    refine cw_tupD (.inl rfl) ?_
    have hs : SeqAt.shaped (.tuple [.tuple [.str p.1, .int p.2], .tuple [.str q.1, .int q.2]]) = true := shaped_plain (by simp [plainD, plainA, hp.ok, hq.ok]) (by simp [PyData.depth, PyData.depthAll])
    walk_at "go"
    exact hk
def W_plan_text : Addr → List SV → Amb → KA → Prop := fun C ss A k => ∃ x : Addr × List Str × List Str, ss = [.ptr x.1] ∧ isPlan C A x.1 x.2.1 x.2.2 ∧ Shape x.2.1 x.2.2 ∧ k A (.dat (.str (planS x.2.1 x.2.2)))
theorem ok_plan_text (T : Tx w K mg) : FnOk P w K mg base CX0 2 T.f_plan_text T.d_plan_text ["plan"] (spW K (W_plan_text T.C_Plan)) := by
  refine fn_go T.F_plan_text sc_plan_text (fun ss A k h => ?_) (fun cdv A outer s H E hr => ?_)
  · obtain ⟨i, rfl, _⟩ := h; rfl
  · have hu : (A.deeper (PyProof.Rows.envOfC "plan_text" (defScope s_plan_text) s.heap.objs.size T.f_plan_text cdv)).units + 65 < cLine := by have := hr.un; omega
    have hu1 := hu_of hr
    have h_HEADS := T.v_HEADS
    refine ⟨_, (pss_one (ps_ret (pe_bmK K PySem.F.plainAttrs_str PySem.F.slot_str_join PySem.F.type_str_join (mt_joinK K) pe_str (pa_cons (pe_lc (own := [("at", 1), ("head", 2)]) rfl sc_plan_text.nd (pi_enumTK K (by rfl) T.n_enumerate (pa_cons (pe_glob (v := .ref T.a_HEADS) rfl T.m_HEADS rfl) pa_nil)) (blkOk_by (own := [("at", 1), ("head", 2)]) (N := NN_plan_text) (sc := (defScope s_plan_text)) (by decide +kernel)) (fun _ _ _ _ _ => (pg_tupK K 2 rfl (pgs_cons (pg_name (i := 1) sc_plan_text.nd rfl (by first | exact Or.inl rfl | exact Or.inr rfl)) (pgs_cons (pg_name (i := 2) sc_plan_text.nd rfl (by first | exact Or.inl rfl | exact Or.inr rfl)) pgs_nil)))) (fun _ _ _ _ _ => pts_nil) (fun _ _ _ _ _ => (pe_op op_addS (pe_bmK K PySem.F.plainAttrs_str PySem.F.slot_str_join PySem.F.type_str_join (mt_joinK K) pe_str (pa_cons (pe_op (op_catK K) (pe_tup (pa_cons (pv 2) pa_nil)) (pe_meth (pv 0) T.cl_Plan T.M_Plan_lines (ok_Plan_lines T) (hr.mono (by decide)) T.b_Plan_lines .nil pass0 (pa_cons (pv 1) pa_nil))) pa_nil)) pe_str))) pa_nil)))), ?_⟩
    rintro ss A k ⟨⟨p, a, b⟩, rfl, hk⟩
    (try dsimp only [cxK] at hk); (try dsimp only [cxK])
    change Go _ _ _ [_, SV.no, SV.no] _
    obtain ⟨hP, hS, hk⟩ := hk
    have h1 := row_len (h := "uprights") (.inl rfl) (fun w h => hS.nm w (List.mem_append_left _ h)) hS.a8
    have h2 := row_len (h := "levels") (.inr rfl) (fun w h => hS.nm w (List.mem_append_right _ h)) hS.b8
    have e1 : ("\n" : Str).length = 1 := by decide +kernel
    walk_at "go"
    refine wp_join1 ?_
    walk_at "go"
    refine wp_lcA (enc := fun t : Nat × Str × List Str => PyData.tuple [.int (t.1 : Nat), .str t.2.1]) (xs := [(0, "uprights", a), (1, "levels", b)]) (by walk_at "to") (fun t => .str (rowS t.2.1 t.2.2 ++ "\n")) (sz (by simp)) ?_
    refine iw_enumT ?_
    walk_at "go"
    refine ⟨rfl, fun t ht => ?_, ?_⟩
    · have hf : [a, b][t.1]? = some t.2.2 ∧ (t.2.1 = "uprights" ∨ t.2.1 = "levels") ∧ (∀ w ∈ t.2.2, IsName w) ∧ t.2.2.length ≤ 8 := by
        simp only [List.mem_cons, List.not_mem_nil, or_false] at ht
        rcases ht with rfl | rfl
        · exact ⟨rfl, .inl rfl, fun w h => hS.nm w (List.mem_append_left _ h), hS.a8⟩
        · exact ⟨rfl, .inr rfl, fun w h => hS.nm w (List.mem_append_right _ h), hS.b8⟩
      obtain ⟨n, hd, ws⟩ := t
      obtain ⟨f1, f2, f3, f4⟩ := hf
      have f4 : ws.length ≤ 8 := f4
      have f3 : ∀ w ∈ ws, IsName w := f3
      have f2 : hd = "uprights" ∨ hd = "levels" := f2
      have hr := row_len f2 f3 f4
      walk_at "go"
      refine wp_joinT ?_
      walk_at "go"
      refine wp_meth ?_
      walk_at "go"
      obtain ⟨dx, hp⟩ := hP
      refine ⟨p, dx, _, rfl, hp, rfl, ?_⟩
      walk_at "go"
      refine ⟨(p, a, b, n), rfl, ⟨dx, hp⟩, ws, f1, ?_⟩
      walk_at "go"
      refine rw_catT (sz (by rw [List.length_map]; simp only [List.length_cons, List.length_nil]; omega)) ?_
      refine ⟨hd :: ws, rfl, ?_, ?_⟩
      · have e2 : (" " : Str).length = 1 := by decide +kernel
        have := names_sum f3
        have := head_len f2
        simp only [List.map_cons, List.sum_cons, List.length_cons, e2]
        omega
      walk_at "go"
      refine rw_addS (by rw [e1]; show (rowS hd ws).length + 1 ≤ _; exact sz (by omega)) ?_
      exact ⟨rfl, rfl⟩
    walk_at "go"
    refine ⟨[rowS "uprights" a ++ "\n", rowS "levels" b ++ "\n"], rfl, ?_, hk⟩
    have e3 : ("" : Str).length = 0 := by decide +kernel
    simp only [List.map_cons, List.map_nil, List.sum_cons, List.sum_nil, List.length_cons, List.length_nil, e1, e3, Str.length_append]
    omega
def W_names_by : List SV → Amb → KA → Prop := fun ss A k => ∃ x : Str × List Str, ss = [.dat (.str (rowS x.1 x.2)), .dat (.str x.1)] ∧ (x.1 = "uprights" ∨ x.1 = "levels") ∧ (∀ w ∈ x.2, IsName w) ∧ 2 ≤ x.2.length ∧ x.2.length ≤ 8 ∧ k A (.dat (.list (x.2.map .str)))
theorem ok_names_by (T : Tx w K mg) : FnOk P w K mg base CX0 2 T.f_names_by T.d_names_by ["row", "head"] (spW K (W_names_by)) := by
  refine fn_go T.F_names_by sc_names_by (fun ss A k h => ?_) (fun cdv A outer s H E hr => ?_)
  · obtain ⟨i, rfl, _⟩ := h; rfl
  · have hu : (A.deeper (PyProof.Rows.envOfC "names_by" (defScope s_names_by) s.heap.objs.size T.f_names_by cdv)).units + 65 < cLine := by have := hr.un; omega
    have hu1 := hu_of hr
    refine ⟨_, (pss_cons (ps_asg (pe_bmK K PySem.F.plainAttrs_str PySem.F.slot_str_split PySem.F.type_str_split mt_splitW (pv 0) (pa_cons pe_str pa_nil)) (pg_lstSK K 1 0 rfl (pgs_cons (pg_name (i := 2) sc_names_by.nd rfl (Or.inl rfl)) (pgs_star (pg_name (i := 3) sc_names_by.nd rfl (Or.inl rfl)) pgs_nil))))
      (pss_one (ps_ret (pe_ifExp (PW.pt (pw_and (pt_cmpR op_eq (pv 2) (pv 1) (nomark _)) (pw_and (pt_cmpR (op_neK K hu) (pv 3) (pe_lst pa_nil) (nomark _)) (pw_and1 (pt_val (pe_callB (cr_allK K rfl) (by rfl) T.n_all (by decide +kernel) (pa_cons (pe_lc (own := [("name", 4)]) rfl sc_names_by.nd (pi_listK K (pv 3)) (blkOk_by (own := [("name", 4)]) (N := NN_names_by) (sc := (defScope s_names_by)) (by decide +kernel)) (fun _ _ _ _ _ => (pg_name (i := 4) sc_names_by.nd rfl (by first | exact Or.inl rfl | exact Or.inr rfl))) (fun _ _ _ _ _ => pts_nil) (fun _ _ _ _ _ => (pe_call (ok_is_name T) (hr.mono (by decide)) (by rfl) T.g_is_name T.F_is_name.kp T.b_is_name .nil pass0 (pa_cons (pv 4) pa_nil)))) pa_nil))))))) (pv 3) pe_non)))), ?_⟩
    rintro ss A k ⟨⟨hd, ws⟩, rfl, hk⟩
    (try dsimp only [cxK] at hk); (try dsimp only [cxK])
    change Go _ _ _ [_, _, SV.no, SV.no, SV.no] _
    obtain ⟨hh, hw, h2, h8, hk⟩ := hk
    have h2 : 2 ≤ ws.length := h2
    have h8 : ws.length ≤ 8 := h8
    have hr := row_len hh hw h8
    obtain ⟨w0, wr, rfl⟩ : ∃ w0 wr, ws = w0 :: wr := by
      cases ws with
      | nil => simp at h2
      | cons w wr => exact ⟨w, wr, rfl⟩
    walk_at "go"
    refine wp_split ?_
    walk_at "go"
    refine ⟨by decide +kernel, sz (by show (rowS hd (w0 :: wr)).length + 2 ≤ _; omega), ?_⟩
    rw [row_split hh hw]
    refine gw_lstS (by simp) ?_
    have e1 : (List.take 1 ((hd :: w0 :: wr).map PyData.str) ++ [PyData.list ((((hd :: w0 :: wr).map PyData.str).drop 1).take (((hd :: w0 :: wr).map PyData.str).length - 0 - 1))] ++ ((hd :: w0 :: wr).map PyData.str).drop (((hd :: w0 :: wr).map PyData.str).length - 0)) = [.str hd, .list ((w0 :: wr).map .str)] := by
      rw [Nat.sub_zero, List.drop_length, List.append_nil]
      have e2 : (((hd :: w0 :: wr).map PyData.str).drop 1).take (((hd :: w0 :: wr).map PyData.str).length - 1) = (w0 :: wr).map .str := List.take_of_length_le (by simp)
      rw [e2]
      rfl
    rw [e1]
    walk_at "go"
    refine rw_neD (strs_shapedL fun w h => (hw w h).ok) (by walk_at "sh") ?_
    walk_at "go"
    refine wp_lcA (enc := PyData.str) (xs := w0 :: wr) (by walk_at "to") (fun _ => .bool true) (sz (by omega)) ?_
    refine iw_list ?_
    walk_at "go"
    refine ⟨rfl, fun w hw' => ?_, ?_⟩
    · walk_at "go"
      exact ⟨hw w hw', rfl, rfl⟩
    walk_at "go"
    have e : ((w0 :: wr).map fun _ => PyData.bool true) = ((w0 :: wr).map fun _ => true).map PyData.bool := by rw [List.map_map]; rfl
    rw [e]
    refine cw_all ?_
    rw [all_true]
    walk_at "go"
    exact hk
def W_read_plan : Addr → List SV → Amb → KA → Prop := fun C ss A k => ∃ x : Str × List Str × List Str, ss = [.dat (.str x.1)] ∧ planS x.2.1 x.2.2 = x.1 ∧ Shape x.2.1 x.2.2 ∧ ∀ p dx, k ⟨A.I, (p, .ins C dx (planF x.2.1 x.2.2)) :: A.cells⟩ (.ptr p)
theorem ok_read_plan (T : Tx w K mg) : FnOk P w K mg base CX0 5 T.f_read_plan T.d_read_plan ["text"] (spW K (W_read_plan T.C_Plan)) := by
  refine fn_go T.F_read_plan sc_read_plan (fun ss A k h => ?_) (fun cdv A outer s H E hr => ?_)
  · obtain ⟨i, rfl, _⟩ := h; rfl
  · have hu : (A.deeper (PyProof.Rows.envOfC "read_plan" (defScope s_read_plan) s.heap.objs.size T.f_read_plan cdv)).units + 65 < cLine := by have := hr.un; omega
    have hu1 := hu_of hr
    have h_HEADS := T.v_HEADS
    refine ⟨_, (pss_cons (ps_if (pt_not (pt_val (pe_callB (call_isiK2 K) (by rfl) T.n_isinstance (by decide +kernel) (pa_cons (pv 0) (pa_cons (pe_bltn (v := .ty "str") (by rfl) T.n_str (by decide +kernel) rfl) pa_nil)))))
        (pss_one ps_never)
        pss_nil)
      (pss_cons (ps_asg (pe_bmK K PySem.F.plainAttrs_str PySem.F.slot_str_split PySem.F.type_str_split mt_splitW (pv 0) (pa_cons pe_str pa_nil)) (pg_lstSK K 0 1 rfl (pgs_star (pg_name (i := 1) sc_read_plan.nd rfl (Or.inl rfl)) (pgs_cons (pg_name (i := 2) sc_read_plan.nd rfl (Or.inl rfl)) pgs_nil))))
      (pss_cons (ps_if (pt_cmpR op_ne (pv 2) pe_str (nomark _))
        (pss_one (ps_expr (pe_bmK K PySem.F.plainAttrs_list PySem.F.slot_list_append PySem.F.type_list_append mt_append (pv 1) (pa_cons (pv 2) pa_nil))))
        pss_nil)
      (pss_cons (ps_setLc (i := 3) (own := [("row", 4), ("head", 5)]) rfl sc_read_plan.nd rfl rfl (sw_true rfl rfl rfl (by decide +kernel)) (pi_zipGK K (by rfl) T.n_zip (pa_cons (pv 1) (pa_cons (pe_glob (v := .ref T.a_HEADS) rfl T.m_HEADS rfl) pa_nil))) (blkOk_by (own := [("row", 4), ("head", 5)]) (N := NN_read_plan) (sc := (defScope s_read_plan)) (by decide +kernel)) (fun _ _ _ _ _ => (pg_tupK K 2 rfl (pgs_cons (pg_name (i := 4) sc_read_plan.nd rfl (by first | exact Or.inl rfl | exact Or.inr rfl)) (pgs_cons (pg_name (i := 5) sc_read_plan.nd rfl (by first | exact Or.inl rfl | exact Or.inr rfl)) pgs_nil)))) (fun _ _ _ _ _ => pts_nil) (fun _ _ _ _ _ => (pe_call (ok_names_by T) (hr.mono (by decide)) (by rfl) T.g_names_by T.F_names_by.kp T.b_names_by .nil pass0 (pa_cons (pv 4) (pa_cons (pv 5) pa_nil)))))
      (pss_cons (ps_if (PW.pt (pw_and (pt_cmpR op_ne (pv 2) pe_str (nomark _)) (pw_and1 (pt_cmpR op_le (pe_callB (call_lenK K) (by rfl) T.n_len (by decide +kernel) (pa_cons (pv 1) pa_nil)) (pe_callB (call_lenK K) (by rfl) T.n_len (by decide +kernel) (pa_cons (pe_glob (v := .ref T.a_HEADS) rfl T.m_HEADS rfl) pa_nil)) (nomark _)))))
        (pss_one (ps_asg pe_non (pg_sub (pv 3) (pe_un un_neg pe_int) set_list)))
        pss_nil)
      (pss_cons (ps_if (pt_cmpR (op_inK K hu) pe_non (pv 3) rfl)
        (pss_one ps_never)
        pss_nil)
      (pss_cons (ps_if (pt_cmpR op_gt (pe_callB (call_lenK K) (by rfl) T.n_len (by decide +kernel) (pa_cons (pv 1) pa_nil)) (pe_callB (call_lenK K) (by rfl) T.n_len (by decide +kernel) (pa_cons (pe_glob (v := .ref T.a_HEADS) rfl T.m_HEADS rfl) pa_nil)) (nomark _))
        (pss_one ps_never)
        pss_nil)
      (pss_cons (ps_if (pt_cmpR op_lt (pe_callB (call_lenK K) (by rfl) T.n_len (by decide +kernel) (pa_cons (pv 1) pa_nil)) (pe_callB (call_lenK K) (by rfl) T.n_len (by decide +kernel) (pa_cons (pe_glob (v := .ref T.a_HEADS) rfl T.m_HEADS rfl) pa_nil)) (nomark _))
        (pss_one ps_never)
        pss_nil)
      (pss_one (ps_ret (pe_make T.M_Plan___init__ (ok_Plan___init__ T) (hr.mono (by decide)) (by rfl) T.mg_Plan T.b_Plan___init__ .nil pass0 (pa_cons (pe_ix (ixK K) (pv 3) pe_int (fun _ _ => rfl)) (pa_cons (pe_ix (ixK K) (pv 3) pe_int (fun _ _ => rfl)) pa_nil))))))))))))), ?_⟩
    rintro ss A k ⟨⟨z, a, b⟩, rfl, hk⟩
    (try dsimp only [cxK] at hk); (try dsimp only [cxK])
    change Go _ _ _ [_, SV.no, SV.no, SV.no, SV.no, SV.no] _
    obtain ⟨hz, hS, hk⟩ := hk
    have hz : planS a b = z := hz
    subst hz
    have ha : ∀ w ∈ a, IsName w := fun w h => hS.nm w (List.mem_append_left _ h)
    have hb : ∀ w ∈ b, IsName w := fun w h => hS.nm w (List.mem_append_right _ h)
    walk_at "go"
    refine wp_split ?_
    walk_at "go"
    refine ⟨by decide +kernel, sz (by have := plan_len hS; show (planS a b).length + 2 ≤ _; omega), ?_⟩
    rw [plan_split hS.nm]
    refine gw_lstS (by simp) ?_
    have e1 : (List.take 0 (([rowS "uprights" a, rowS "levels" b, ""] : List Str).map PyData.str) ++ [PyData.list (((([rowS "uprights" a, rowS "levels" b, ""] : List Str).map PyData.str).drop 0).take ((([rowS "uprights" a, rowS "levels" b, ""] : List Str).map PyData.str).length - 1 - 0))] ++ (([rowS "uprights" a, rowS "levels" b, ""] : List Str).map PyData.str).drop ((([rowS "uprights" a, rowS "levels" b, ""] : List Str).map PyData.str).length - 1)) = [.list [.str (rowS "uprights" a), .str (rowS "levels" b)], .str ""] := rfl
    rw [e1]
    walk_at "go"
    refine wp_lcA (enc := fun t : Str × List Str => PyData.tuple [.str (rowS t.1 t.2), .str t.1]) (xs := [("uprights", a), ("levels", b)]) (by walk_at "to") (fun t => .list (t.2.map .str)) (sz (by simp)) ?_
    refine iw_zipG ?_
    walk_at "go"
    refine ⟨_, _, _, _, rfl, rfl, rfl, ?_⟩
    refine ⟨rfl, fun t ht => ?_, ?_⟩
    · have hf : (t.1 = "uprights" ∨ t.1 = "levels") ∧ (∀ w ∈ t.2, IsName w) ∧ 2 ≤ t.2.length ∧ t.2.length ≤ 8 := by
        simp only [List.mem_cons, List.not_mem_nil, or_false] at ht
        rcases ht with rfl | rfl
        · exact ⟨.inl rfl, ha, hS.a2, hS.a8⟩
        · exact ⟨.inr rfl, hb, hS.b2, hS.b8⟩
      walk_at "go"
      exact ⟨hf.1, hf.2.1, hf.2.2.1, hf.2.2.2, rfl, rfl⟩
    walk_at "go"
    have hsh : SeqAt.shaped (.list [.list (a.map .str), .list (b.map .str)]) = true := lists_shaped hS.nm
    refine rw_inL (by walk_at "sh") hsh ?_
    walk_at "go"
    refine wp_make ?_
    walk_at "go"
    exact fun p dx => ⟨(p, dx, a, b), rfl, hS, _, _, rfl, rfl, hk p dx⟩
def W__law_begin : List SV → Amb → KA → Prop := fun ss A k => ∃ ns : List Int, ss = [.scr ns] ∧ ns.length ≤ 63 ∧ ∀ p q ms, drawOk q [.lst (drawL q 0 1), .lst ms] → k ⟨A.I, (p, .lst (drawL q 0 1)) :: (q, .lst ms) :: A.cells⟩ (.ptr p)
theorem ok__law_begin (T : Tx w K mg) : FnOk P w K mg base CX0 1 T.f__law_begin T.d__law_begin ["script"] (spW K (W__law_begin)) := by
  refine fn_go T.F__law_begin sc__law_begin (fun ss A k h => ?_) (fun cdv A outer s H E hr => ?_)
  · obtain ⟨i, rfl, _⟩ := h; rfl
  · have hu : (A.deeper (PyProof.Rows.envOfC "_law_begin" (defScope s__law_begin) s.heap.objs.size T.f__law_begin cdv)).units + 65 < cLine := by have := hr.un; omega
    have hu1 := hu_of hr
    refine ⟨_, (pss_cons (ps_setLc (i := 1) (own := [("cell", 2)]) rfl sc__law_begin.nd rfl rfl (sw_true rfl rfl rfl (by decide +kernel)) (pi_listK K (pe_slice (sl_listK K) (pv 0) po_none (po_some pe_int))) (blkOk_by (own := [("cell", 2)]) (N := NN__law_begin) (sc := (defScope s__law_begin)) (by decide +kernel)) (fun _ _ _ _ _ => (pg_name (i := 2) sc__law_begin.nd rfl (by first | exact Or.inl rfl | exact Or.inr rfl))) (fun _ _ _ _ _ => pts_nil) (fun _ _ _ _ _ => (pe_callB call_absN (by rfl) T.n_abs (by decide +kernel) (pa_cons (pv 2) pa_nil))))
      (pss_cons (ps_if (pt_cmpR (op_eqK K hu) (pv 1) (pe_lst pa_nil) (nomark _))
        (pss_one (ps_set (i := 1) sc__law_begin.nd rfl (Or.inl rfl) (pe_lst (pa_cons pe_int pa_nil))))
        pss_nil)
      (pss_one (ps_ret (pe_lst (pa_cons (pv 1) (pa_cons pe_int (pa_cons pe_int pa_nil)))))))), ?_⟩
    rintro ss A k ⟨i, rfl, hk⟩
    (try dsimp only [cxK] at hk); (try dsimp only [cxK])
    change Go _ _ _ [_, SV.no, SV.no] _
    obtain ⟨hns, hk⟩ := hk
    walk_at "wp"
    refine wp_lcO (by walk_at "to") ?_
    refine iw_list ?_
    walk_at "wp"
    refine sw_scr ?_
    rw [cut_all (by omega)]
    refine ⟨_, rfl, fun j A1 acc => A1 = A ∧ ∃ ms : List Int, acc = ms.map (fun n => SV.dat (.int n)) ∧ ms.length = j ∧ ∀ m ∈ ms, 0 ≤ m, ⟨rfl, [], rfl, rfl, by simp⟩, ?_, ?_⟩
    · intro j s hs A1 acc
      rintro ⟨rfl, ms, rfl, hl, hm⟩
      obtain ⟨n, hn, rfl⟩ := get_enc hs
      have hj := (List.getElem?_eq_some_iff.mp hn).1
      walk_at "wp"
      refine ⟨fun _ => ?_, fun h => by cases h⟩
      walk_at "wp"
      refine cw_abs ?_
      refine ⟨by rw [List.length_map]; exact szl (by omega), rfl, ms ++ [_], by rw [List.map_append]; rfl, by simp [hl], fun m h => ?_⟩
      rcases List.mem_append.mp h with h | h
      · exact hm m h
      · rw [List.mem_singleton.mp h]
        split <;> omega
    · rintro A1 acc ⟨rfl, ms, rfl, hl, hm⟩ q
      simp only [List.length_map] at hl
      walk_at "wp"
      refine rw_eqP (ds := ms.map .int) (by rw [← ints_dats]; walk_at "cell") (ints_shapedL ms) (by walk_at "sh") ?_
      walk_at "wp"
      refine if_join (fun A2 S2 => ∃ (q : Addr) (l : List Int), A2 = ⟨A1.I, (q, .lst (l.map fun n => .dat (.int n))) :: A1.cells⟩ ∧ (∃ x, S2 = [.scr i, .ptr q, x]) ∧ l ≠ [] ∧ l.length ≤ 63 ∧ ∀ n ∈ l, 0 ≤ n) (fun h => ?_) (fun h => ?_) ?_
      · refine go_loss (by walk_at "rem") ?_
        refine go_set ?_
        refine wp_lstO ?_
        walk_at "wp"
        refine ⟨by show 1 ≤ sizeLine; decide, fun q2 => ?_⟩
        exact ⟨q2, [7], rfl, ⟨_, rfl⟩, by simp, by simp, by simp⟩
      · walk_at "wp"
        refine ⟨⟨_, rfl⟩, ?_, by omega, hm⟩
        intro e
        subst e
        simp [PyData.eqv, PyData.eqvAll] at h
      · rintro A2 S2 ⟨q, l, rfl, ⟨x, rfl⟩, h1, h2, h3⟩
        refine go_ret ?_
        refine wp_lstO ?_
        walk_at "wp"
        refine ⟨by show 3 ≤ sizeLine; decide, fun p => ?_⟩
        exact hk p q _ ⟨l, 0, 1, rfl, h1, h2, h3, by decide, by decide, by decide⟩
def W__law_take : PySem.W.Frag → List SV → Amb → KA → Prop := fun K ss A k => ∃ x : Addr × Int, ss = [.ptr x.1, .dat (.int x.2)] ∧ isDraw K A x.1 ∧ 0 < x.2 ∧ x.2 < 1099511627776 ∧ ∀ r : Int, 0 ≤ r → r < x.2 → k A (.dat (.int r))
theorem ok__law_take (T : Tx w K mg) : FnOk P w K mg base CX0 1 T.f__law_take T.d__law_take ["draw", "size"] (spW K (W__law_take K)) := by
  refine fn_go T.F__law_take sc__law_take (fun ss A k h => ?_) (fun cdv A outer s H E hr => ?_)
  · obtain ⟨i, rfl, _⟩ := h; rfl
  · have hu : (A.deeper (PyProof.Rows.envOfC "_law_take" (defScope s__law_take) s.heap.objs.size T.f__law_take cdv)).units + 65 < cLine := by have := hr.un; omega
    have hu1 := hu_of hr
    refine ⟨_, (pss_cons (ps_set (i := 2) sc__law_take.nd rfl (Or.inl rfl) (pe_ix (ixK K) (pv 0) pe_int (fun _ _ => rfl)))
      (pss_cons (ps_set (i := 3) sc__law_take.nd rfl (Or.inl rfl) (pe_op op_mod (pe_ix (ixK K) (pv 0) pe_int (fun _ _ => rfl)) (pe_callB (call_lenK K) (by rfl) T.n_len (by decide +kernel) (pa_cons (pv 2) pa_nil))))
      (pss_cons (ps_set (i := 4) sc__law_take.nd rfl (Or.inl rfl) (pe_ix (ixK K) (pv 2) (pv 3) (fun _ _ => rfl)))
      (pss_cons (ps_if (pt_cmpR op_ge (pv 4) (pe_op op_pow pe_int pe_int) (nomark _))
        (pss_cons (ps_asg (pe_op op_fdivW (pv 4) (pv 1)) (pg_sub (pv 2) (pv 3) set_list))
          (pss_one (ps_ret (pe_op op_mod (pv 4) (pv 1)))))
        pss_nil)
      (pss_cons (ps_asg (pe_op op_add (pe_ix (ixK K) (pv 0) pe_int (fun _ _ => rfl)) pe_int) (pg_sub (pv 0) pe_int set_list))
      (pss_cons (ps_asg (pe_op op_mod (pe_op op_add (pe_op op_add (pe_op op_mul (pe_ix (ixK K) (pv 0) pe_int (fun _ _ => rfl)) pe_int) (pv 4)) pe_int) pe_int) (pg_sub (pv 0) pe_int set_list))
      (pss_one (ps_ret (pe_op op_mod (pe_op op_fdiv (pe_op op_mod (pe_op op_mul (pe_ix (ixK K) (pv 0) pe_int (fun _ _ => rfl)) (pe_ix (ixK K) (pv 0) pe_int (fun _ _ => rfl))) pe_int) pe_int) (pv 1)))))))))), ?_⟩
    rintro ss A k ⟨⟨p, many⟩, rfl, hk⟩
    (try dsimp only [cxK] at hk); (try dsimp only [cxK])
    change Go _ _ _ [_, _, SV.no, SV.no, SV.no] _
    obtain ⟨⟨q, hI⟩, h0, h1, hk⟩ := hk
    obtain ⟨I, l⟩ := A
    subst hI
    refine go_open fun cs hc _ => ?_
    obtain ⟨ns, a, m, rfl, hne, hl, hnn, ha, hm, hm2⟩ := hc
    change Go _ ⟨Blk.nil, (p, _) :: (q, _) :: l⟩ _ _ _
    have hpos : 0 < (ns.length : Int) := by
      cases ns with
      | nil => exact absurd rfl hne
      | cons x xs => simp only [List.length_cons]; omega
    walk_at "wp"
    refine rw_ixP (by walk_at "cell") (atI_at (by decide) rfl) ?_
    walk_at "wp"
    refine rw_ixP (by walk_at "cell") (atI_at (by decide) rfl) ?_
    walk_at "wp"
    refine cw_lenP (by walk_at "cell") ?_
    rw [List.length_map]
    refine rw_I (g := fun i j => .int (i % j)) hpos rfl ?_
    have e0 := Int.emod_nonneg a (b := (ns.length : Int)) (by omega)
    have e1 := Int.emod_lt_of_pos a hpos
    have e2 := getD_at (ns := ns) (i := (a % (ns.length : Int)).toNat) (by omega)
    walk_at "wp"
    refine rw_ixP (by walk_at "cell") (atI_at (x := .dat (.int (ns.getD (a % (ns.length : Int)).toNat 0))) e0 (by rw [List.getElem?_map, e2]; rfl)) ?_
    have e3 := hnn _ (List.mem_of_getElem? e2)
    generalize ns.getD (a % (ns.length : Int)).toNat 0 = c at e2 e3 ⊢
    walk_at "wp"
    refine ⟨fun h3 => ?_, fun h3 => ?_⟩
    · walk_at "wp"
      refine rw_I (g := fun i j => .int (i / j)) (log_small h0 h1) rfl ?_
      walk_at "wp"
      refine ⟨_, _, _, _, _, rfl, rfl, by walk_at "upd", ixN_at (by exact e0) (by rw [List.length_map]; exact e1), ?_⟩
      walk_at "wp"
      refine ⟨[_, _], l, rfl, rfl, ?_, hk _ (Int.emod_nonneg _ (by omega)) (Int.emod_lt_of_pos _ h0)⟩
      refine ⟨ns.set (a % (ns.length : Int)).toNat (c / many), a, m, ?_, ?_, by rw [List.length_set]; exact hl, set_mem hnn (Int.ediv_nonneg e3 (by omega)), ha, hm, hm2⟩
      · rw [List.map_set]
      · intro e
        have := congrArg List.length e
        rw [List.length_set] at this
        exact hne (List.eq_nil_of_length_eq_zero this)
    · walk_at "wp"
      refine rw_ixP (by walk_at "cell") (atI_at (by decide) rfl) ?_
      walk_at "wp"
      refine ⟨_, _, _, _, _, rfl, rfl, by walk_at "upd", ixN_at (by decide) (by show (_ : Int) < ((3 : Nat) : Int); decide), ?_⟩
      walk_at "wp"
      refine rw_ixP (by walk_at "cell") (atI_at (by decide) rfl) ?_
      walk_at "wp"
      refine ⟨_, _, _, _, _, rfl, rfl, by walk_at "upd", ixN_at (by decide) (by show (_ : Int) < ((3 : Nat) : Int); decide), ?_⟩
      walk_at "wp"
      refine rw_ixP (by walk_at "cell") (atI_at (by decide) rfl) ?_
      walk_at "wp"
      refine rw_ixP (by walk_at "cell") (atI_at (by decide) rfl) ?_
      have b0 : 0 ≤ (m * 48271 + c + 12345) % 2147483647 := Int.emod_nonneg _ (by decide)
      have b1 : (m * 48271 + c + 12345) % 2147483647 < 2147483647 := Int.emod_lt_of_pos _ (by decide)
      generalize (m * 48271 + c + 12345) % 2147483647 = m' at b0 b1 ⊢
      walk_at "wp"
      refine ⟨[_, _], l, rfl, rfl, ⟨ns, a + 1, m', rfl, hne, hl, hnn, by omega, b0, b1⟩, hk _ (Int.emod_nonneg _ (by omega)) (Int.emod_lt_of_pos _ h0)⟩
def W__law_pick : PySem.W.Frag → List SV → Amb → KA → Prop := fun K ss A k => ∃ x : Addr × PyData × List PyData, ss = [.ptr x.1, .dat x.2.1] ∧ isDraw K A x.1 ∧ (x.2.1 = .list x.2.2 ∨ x.2.1 = .tuple x.2.2 ∨ ∃ z : Str, x.2.1 = .str z ∧ x.2.2 = z.cps.toList.map sig1) ∧ x.2.2 ≠ [] ∧ x.2.2.length < 1000000 ∧ ∀ d ∈ x.2.2, k A (.dat d)
theorem ok__law_pick (T : Tx w K mg) : FnOk P w K mg base CX0 2 T.f__law_pick T.d__law_pick ["draw", "some"] (spW K (W__law_pick K)) := by
  refine fn_go T.F__law_pick sc__law_pick (fun ss A k h => ?_) (fun cdv A outer s H E hr => ?_)
  · obtain ⟨i, rfl, _⟩ := h; rfl
  · have hu : (A.deeper (PyProof.Rows.envOfC "_law_pick" (defScope s__law_pick) s.heap.objs.size T.f__law_pick cdv)).units + 65 < cLine := by have := hr.un; omega
    have hu1 := hu_of hr
    refine ⟨_, (pss_one (ps_ret (pe_ix (ixK K) (pv 1) (pe_call (ok__law_take T) (hr.mono (by decide)) (by rfl) T.g__law_take T.F__law_take.kp T.b__law_take .nil pass0 (pa_cons (pv 0) (pa_cons (pe_callB (call_lenK K) (by rfl) T.n_len (by decide +kernel) (pa_cons (pv 1) pa_nil)) pa_nil))) (fun _ _ => rfl)))), ?_⟩
    rintro ss A k ⟨⟨p, d, ds⟩, rfl, hk⟩
    (try dsimp only [cxK] at hk); (try dsimp only [cxK])
    change Go _ _ _ [_, _] _
    obtain ⟨hI, hd, h0, h1, hk⟩ := hk
    have hp : 0 < ds.length := List.length_pos_iff.mpr h0
    have e : ∀ r : Int, 0 ≤ r → (hl : r.toNat < ds.length) → atI ds r = some ds[r.toNat] := fun r r0 hl => atI_at r0 (List.getElem?_eq_getElem hl)
    rcases hd with rfl | rfl | ⟨z, rfl, rfl⟩
    · walk_at "wp"
      refine cw_lenL ?_
      walk_at "wp"
      refine ⟨(p, (ds.length : Int)), rfl, hI, by simp only; omega, by simp only; omega, fun r r0 r1 => ?_⟩
      simp only at r1
      exact rw_ixL (e r r0 (by omega)) (hk _ (List.getElem_mem _))
    · walk_at "wp"
      refine cw_lenT ?_
      walk_at "wp"
      refine ⟨(p, (ds.length : Int)), rfl, hI, by simp only; omega, by simp only; omega, fun r r0 r1 => ?_⟩
      simp only at r1
      exact rw_ixT (e r r0 (by omega)) (hk _ (List.getElem_mem _))
    · have hz : z.length = (z.cps.toList.map sig1).length := by rw [List.length_map, Array.length_toList]; rfl
      have hzs : z.length ≤ sizeLine := by rw [hz]; exact Nat.le_trans (Nat.le_of_lt h1) (by decide)
      walk_at "wp"
      refine cw_lenX hzs ?_
      walk_at "wp"
      refine ⟨(p, (z.length : Int)), rfl, hI, by simp only; omega, by simp only; omega, fun r r0 r1 => ?_⟩
      simp only at r1
      rw [List.length_map] at hz
      have hl : r.toNat < z.cps.toList.length := by omega
      exact rw_ixX hzs (atI_at r0 (List.getElem?_eq_getElem hl)) (hk (sig1 _) (List.mem_map.mpr ⟨_, List.getElem_mem hl, rfl⟩))
def W__law_names : PySem.W.Frag → List SV → Amb → KA → Prop := fun K ss A k => ∃ x : Addr × Nat, ss = [.ptr x.1, .dat (.int x.2)] ∧ isDraw K A x.1 ∧ x.2 ≤ 20 ∧ ∀ ws : List Str, ws.length = x.2 → ws.Nodup → (∀ w ∈ ws, IsName w) → k A (.dat (.list (ws.map .str)))
theorem ok__law_names (T : Tx w K mg) : FnOk P w K mg base CX0 3 T.f__law_names T.d__law_names ["draw", "many"] (spW K (W__law_names K)) := by
  refine fn_go T.F__law_names sc__law_names (fun ss A k h => ?_) (fun cdv A outer s H E hr => ?_)
  · obtain ⟨i, rfl, _⟩ := h; rfl
  · have hu : (A.deeper (PyProof.Rows.envOfC "_law_names" (defScope s__law_names) s.heap.objs.size T.f__law_names cdv)).units + 65 < cLine := by have := hr.un; omega
    have hu1 := hu_of hr
    refine ⟨_, (pss_cons (ps_set (i := 2) sc__law_names.nd rfl (Or.inl rfl) (pe_lst (pa_cons pe_str (pa_cons pe_str (pa_cons pe_str (pa_cons pe_str (pa_cons pe_str (pa_cons pe_str (pa_cons pe_str (pa_cons pe_str (pa_cons pe_str (pa_cons pe_str (pa_cons pe_str (pa_cons pe_str (pa_cons pe_str (pa_cons pe_str pa_nil))))))))))))))))
      (pss_cons (ps_set (i := 3) sc__law_names.nd rfl (Or.inr rfl) (pe_lst pa_nil))
      (pss_cons (ps_for PassesOwn.never rfl (pi_range1 (by rfl) T.n_range (pa_cons (pv 1) pa_nil)) (pg_name (i := 4) sc__law_names.nd rfl (Or.inl rfl))
        (pss_cons (ps_set (i := 5) sc__law_names.nd rfl (Or.inr rfl) (pe_call (ok__law_pick T) (hr.mono (by decide)) (by rfl) T.g__law_pick T.F__law_pick.kp T.b__law_pick .nil pass0 (pa_cons (pv 0) (pa_cons (pv 2) pa_nil))))
          (pss_cons (ps_if (pt_cmpR op_gt (pe_call (ok__law_take T) (hr.mono (by decide)) (by rfl) T.g__law_take T.F__law_take.kp T.b__law_take .nil pass0 (pa_cons (pv 0) (pa_cons pe_int pa_nil))) pe_int (nomark _))
            (pss_one (ps_set (i := 5) sc__law_names.nd rfl (Or.inr rfl) (pe_bmK K PySem.F.plainAttrs_str PySem.F.slot_str_join PySem.F.type_str_join (mt_joinK K) pe_str (pa_cons (pe_lc (own := [("j", 8)]) rfl sc__law_names.nd (pi_range1 (by rfl) T.n_range (pa_cons (pe_op op_add pe_int (pe_call (ok__law_take T) (hr.mono (by decide)) (by rfl) T.g__law_take T.F__law_take.kp T.b__law_take .nil pass0 (pa_cons (pv 0) (pa_cons pe_int pa_nil)))) pa_nil)) (blkOk_by (own := [("j", 8)]) (N := NN__law_names) (sc := (defScope s__law_names)) (by decide +kernel)) (fun _ _ _ _ _ => (pg_name (i := 8) sc__law_names.nd rfl (by first | exact Or.inl rfl | exact Or.inr rfl))) (fun _ _ _ _ _ => pts_nil) (fun _ _ _ _ _ => (pe_call (ok__law_pick T) (hr.mono (by decide)) (by rfl) T.g__law_pick T.F__law_pick.kp T.b__law_pick .nil pass0 (pa_cons (pv 0) (pa_cons pe_str pa_nil))))) pa_nil))))
            pss_nil)
          (pss_cons (ps_if (pt_cmpR (op_inK K hu) (pv 5) (pv 3) rfl)
            (pss_cons (ps_setLc (i := 6) (own := [("sign", 7)]) rfl sc__law_names.nd rfl rfl (sw_true rfl rfl rfl (by decide +kernel)) (pi_str pe_str) (blkOk_by (own := [("sign", 7)]) (N := NN__law_names) (sc := (defScope s__law_names)) (by decide +kernel)) (fun _ _ _ _ _ => (pg_name (i := 7) sc__law_names.nd rfl (by first | exact Or.inl rfl | exact Or.inr rfl))) (fun _ _ _ _ _ => pts_nil) (fun _ _ _ _ _ => (pe_op op_addS (pe_slice sl_str (pv 5) po_none (po_some pe_int)) (pv 7))))
              (pss_one (ps_set (i := 5) sc__law_names.nd rfl (Or.inr rfl) (pe_ix (ixK K) (pe_lc (own := [("p", 9)]) rfl sc__law_names.nd (pi_listK K (pv 6)) (blkOk_by (own := [("p", 9)]) (N := NN__law_names) (sc := (defScope s__law_names)) (by decide +kernel)) (fun _ _ _ _ _ => (pg_name (i := 9) sc__law_names.nd rfl (by first | exact Or.inl rfl | exact Or.inr rfl))) (fun _ _ _ _ _ => pts_one (pt_cmpR (op_niK K hu) (pv 9) (pv 3) rfl)) (fun _ _ _ _ _ => (pv 9))) pe_int (fun _ _ => rfl)))))
            pss_nil)
          (pss_one (ps_expr (pe_bmK K PySem.F.plainAttrs_list PySem.F.slot_list_append PySem.F.type_list_append mt_append (pv 3) (pa_cons (pv 5) pa_nil))))))))
      (pss_one (ps_ret (pv 3)))))), ?_⟩
    rintro ss A k ⟨⟨p, many⟩, rfl, hk⟩
    (try dsimp only [cxK] at hk); (try dsimp only [cxK])
    change Go _ _ _ [_, _, SV.no, SV.no, SV.no, SV.no, SV.no, SV.no, SV.no, SV.no] _
    obtain ⟨hI, hm, hk⟩ := hk
    obtain ⟨I, l⟩ := A
    refine go_seq ?_
    walk_at "wpe"
    refine go_seq ?_
    refine go_set ?_
    refine wp_lstO ?_
    walk_at "wp1"
    refine ⟨Nat.zero_le _, fun q => ?_⟩
    walk_at "wp"
    refine go_forR (n := many) ?_
    refine iw_rng1 ?_
    walk_at "wp"
    refine ⟨by omega, by omega, by rw [Int.toNat_natCast], fun i A1 S1 => ∃ ws : List Str, A1 = ⟨I, (q, .lst (ws.map fun w => .dat (.str w))) :: l⟩ ∧ (∃ x4 x5 x6, S1 = [.ptr p, .dat (.int many), .dat (.list (OWN.map .str)), .ptr q, x4, x5, x6, .no, .no, .no]) ∧ ws.length = i ∧ ws.Nodup ∧ ∀ w ∈ ws, IsName w, ⟨[], rfl, ⟨_, _, _, rfl⟩, rfl, List.nodup_nil, by simp⟩, ?_, ?_⟩
    · rintro i A1 S1 hi ⟨ws, rfl, ⟨x4, x5, x6, rfl⟩, hl, hnd, hnm⟩
      have hws := strs_shaped (ws := ws) fun w hw => (hnm w hw).ok
      walk_at "wp"
      refine ⟨(p, _, OWN.map .str), rfl, hI, .inl rfl, by simp [OWN], by rw [List.length_map]; show 14 < 1000000; decide, fun d hd => ?_⟩
      obtain ⟨w0, hw0, rfl⟩ := List.mem_map.mp hd
      have hn0 := own_names w0 hw0
      clear hw0 hd
      walk_at "wp"
      refine ⟨(p, 3), rfl, hI, by simp, by simp, fun r r0 r1 => ?_⟩
      walk_at "wp"
      refine if_join (fun A2 S2 => A2 = ⟨I, (q, .lst (ws.map fun w => .dat (.str w))) :: l⟩ ∧ ∃ w, IsName w ∧ S2 = [.ptr p, .dat (.int many), .dat (.list (OWN.map .str)), .ptr q, .dat (.int i), .dat (.str w), x6, .no, .no, .no]) (fun _ => ?_) (fun _ => ?_) ?_
      · walk_at "wpe"
        refine wp_join1 ?_
        walk_at "wp"
        refine wp_lc (by walk_at "to") ?_
        refine iw_rng1 ?_
        walk_at "wp"
        refine ⟨(p, 8), rfl, hI, by simp, by simp, fun r2 r3 r4 => ?_⟩
        simp only at r4
        walk_at "wp"
        refine ⟨by omega, by omega, fun j A2 acc => A2 = ⟨I, (q, .lst (ws.map fun w => .dat (.str w))) :: l⟩ ∧ ∃ cs : List Nat, acc = (cs.map sig1).map .dat ∧ cs.length = j ∧ ∀ c ∈ cs, c ∈ LET.cps.toList, ⟨rfl, [], rfl, rfl, by simp⟩, ?_, ?_⟩
        · intro j s hs A2 acc
          rintro ⟨rfl, cs, rfl, hcl, hcm⟩
          obtain ⟨hj, rfl⟩ := irange_get hs
          walk_at "wp"
          refine ⟨fun _ => ?_, fun h => by cases h⟩
          walk_at "wp"
          refine ⟨(p, _, LET.cps.toList.map sig1), rfl, hI, .inr (.inr ⟨LET, rfl, rfl⟩), ?_, ?_, fun d hd => ?_⟩
          · have := len_let
            intro e
            have e2 := congrArg List.length e
            rw [List.length_map, Array.length_toList] at e2
            have e3 : LET.cps.size = 26 := this
            rw [e3] at e2
            cases e2
          · rw [List.length_map, Array.length_toList]
            have e3 : LET.cps.size = 26 := len_let
            rw [e3]
            decide
          · obtain ⟨c, hc, rfl⟩ := List.mem_map.mp hd
            refine ⟨by rw [List.length_map, List.length_map]; exact szl (by omega), rfl, cs ++ [c], by simp, by simp [hcl], fun z hz => ?_⟩
            rcases List.mem_append.mp hz with hz | hz
            · exact hcm z hz
            · rw [List.mem_singleton.mp hz]; exact hc
        · rintro A2 acc ⟨rfl, cs, rfl, hcl, hcm⟩
          rw [irange_length] at hcl
          refine ⟨_, rfl, cs.map fun c => ⟨#[c]⟩, by rw [List.map_map]; rfl, ?_, ?_⟩
          · rw [sum1, List.length_map]
            show cs.length + cs.length * 0 ≤ _
            omega
          · refine ⟨rfl, _, ?_, rfl⟩
            have e := join1 cs
            have e2 : (PySem.Txt.join "" (cs.map fun c => (⟨#[c]⟩ : Str))).length = cs.length := by
              rw [← congrArg List.length e, Array.length_toList]
              rfl
            exact ⟨by rw [e2]; omega, by rw [e2]; omega, by rw [e]; exact hcm⟩
      · walk_at "wp"
        exact ⟨rfl, w0, hn0, rfl⟩
      rintro A2 S2 ⟨rfl, w1, hn1, rfl⟩
      have hs1 := str_shaped hn1.ok
      walk_at "wp"
      refine rw_inP (ds := ws.map .str) (by rw [← strs_dats]; walk_at "cell") hs1 hws ?_
      walk_at "wp"
      rw [in_strs]
      refine if_join (fun A2 S2 => A2 = ⟨I, (q, .lst (ws.map fun w => .dat (.str w))) :: l⟩ ∧ ∃ w x6, IsName w ∧ ¬ w ∈ ws ∧ S2 = [.ptr p, .dat (.int many), .dat (.list (OWN.map .str)), .ptr q, .dat (.int i), .dat (.str w), x6, .no, .no, .no]) (fun _ => ?_) (fun h => ?_) ?_
      · walk_at "wp"
        refine wp_lcA (enc := sig1) (xs := LET.cps.toList) (by walk_at "to") (fun c => .str (bentTo w1 c)) (by rw [Array.length_toList]; exact sz (by show LET.length ≤ _; rw [len_let]; decide)) ?_
        refine iw_str ?_
        walk_at "wp"
        refine ⟨rfl, fun c hc => ?_, ?_⟩
        · walk_at "wp"
          refine sw_str (sz (by have := hn1.hi; omega)) ?_
          walk_at "wp"
          refine rw_addS (sz (by have := cut7_len w1; show _ + 1 ≤ _; omega)) ?_
          exact ⟨rfl, rfl⟩
        walk_at "wp"
        refine wp_lcM (enc := fun c => PyData.str (bentTo w1 c)) (xs := LET.cps.toList) (by walk_at "to") (fun c => decide (¬ bentTo w1 c ∈ ws)) (fun c => .str (bentTo w1 c)) (by rw [Array.length_toList]; exact sz (by show LET.length ≤ _; rw [len_let]; decide)) ?_
        refine iw_list ?_
        walk_at "wp"
        refine ⟨rfl, fun c hc => ?_, ?_⟩
        · have hs2 := str_shaped (bentTo_name hn1 hc).ok
          unfold LcItem
          walk_at "wp"
          refine rw_niP (ds := ws.map .str) (by rw [← strs_dats]; walk_at "cell") hs2 hws ?_
          walk_at "wp"
          refine ⟨ni_strs _ _, fun _ => ?_, fun _ => rfl⟩
          walk_at "wp"
          exact ⟨rfl, rfl⟩
        walk_at "wp"
        have hne := some_bent w1 (ws := ws) (by omega)
        obtain ⟨c, r5, e⟩ := List.exists_cons_of_ne_nil hne
        have hc : c ∈ LET.cps.toList.filter fun c => decide (¬ bentTo w1 c ∈ ws) := by rw [e]; exact List.mem_cons_self
        obtain ⟨hc1, hc2⟩ := List.mem_filter.mp hc
        rw [e]
        refine rw_ixL (atI_at (by decide) rfl) ?_
        exact ⟨rfl, _, _, bentTo_name hn1 hc1, of_decide_eq_true hc2, rfl⟩
      · walk_at "wp"
        exact ⟨rfl, w1, _, hn1, of_decide_eq_false h, rfl⟩
      rintro A2 S2 ⟨rfl, w2, x6, hn2, hw2, rfl⟩
      walk_at "wp"
      refine wp_append ?_
      walk_at "wp"
      refine ⟨_, _, rfl, by walk_at "cell", ?_⟩
      walk_at "wp"
      refine ⟨_, _, by walk_at "upd", by rw [List.length_map]; exact szl (by omega), ?_⟩
      refine ⟨ws ++ [w2], by rw [List.map_append]; rfl, ⟨_, _, _, rfl⟩, by simp [hl], ?_, fun w hw => ?_⟩
      · refine List.nodup_append.mpr ⟨hnd, by simp, fun a ha b hb e => ?_⟩
        have : b = w2 := by simpa using hb
        subst this; subst e
        exact hw2 ha
      · rcases List.mem_append.mp hw with hw | hw
        · exact hnm w hw
        · rw [List.mem_singleton.mp hw]; exact hn2
    · rintro A1 S1 ⟨ws, rfl, ⟨x4, x5, x6, rfl⟩, hl, hnd, hnm⟩
      refine go_ret ?_
      refine wp_frz ?_
      walk_at "wp"
      refine ⟨q, ws.map .str, _, rfl, by rw [← strs_dats]; walk_at "rem", ?_⟩
      exact hk ws hl hnd hnm
def W__law_shape : PySem.W.Frag → List SV → Amb → KA → Prop := fun K ss A k => ∃ x : Addr × Int, ss = [.ptr x.1, .dat (.int x.2)] ∧ isDraw K A x.1 ∧ 2 ≤ x.2 ∧ x.2 ≤ 8 ∧ ∀ a b, Shape a b → k A (.dat (shapeD a b))
theorem ok__law_shape (T : Tx w K mg) : FnOk P w K mg base CX0 4 T.f__law_shape T.d__law_shape ["draw", "top"] (spW K (W__law_shape K)) := by
  refine fn_go T.F__law_shape sc__law_shape (fun ss A k h => ?_) (fun cdv A outer s H E hr => ?_)
  · obtain ⟨i, rfl, _⟩ := h; rfl
  · have hu : (A.deeper (PyProof.Rows.envOfC "_law_shape" (defScope s__law_shape) s.heap.objs.size T.f__law_shape cdv)).units + 65 < cLine := by have := hr.un; omega
    have hu1 := hu_of hr
    refine ⟨_, (pss_cons (ps_par (i := 2) (j := 3) rfl sc__law_shape.nd rfl rfl (by decide) rfl rfl (pa_cons (pe_op op_add pe_int (pe_call (ok__law_take T) (hr.mono (by decide)) (by rfl) T.g__law_take T.F__law_take.kp T.b__law_take .nil pass0 (pa_cons (pv 0) (pa_cons (pe_op op_sub (pv 1) pe_int) pa_nil)))) (pa_cons (pe_op op_add pe_int (pe_call (ok__law_take T) (hr.mono (by decide)) (by rfl) T.g__law_take T.F__law_take.kp T.b__law_take .nil pass0 (pa_cons (pv 0) (pa_cons (pe_op op_sub (pv 1) pe_int) pa_nil)))) pa_nil)) (by rfl))
      (pss_cons (ps_set (i := 4) sc__law_shape.nd rfl (Or.inl rfl) (pe_call (ok__law_names T) (hr.mono (by decide)) (by rfl) T.g__law_names T.F__law_names.kp T.b__law_names .nil pass0 (pa_cons (pv 0) (pa_cons (pe_op op_add (pv 2) (pv 3)) pa_nil))))
      (pss_one (ps_ret (pe_tup (pa_cons (pe_slice (sl_listK K) (pv 4) po_none (po_some (pv 2))) (pa_cons (pe_slice (sl_listK K) (pv 4) (po_some (pv 2)) po_none) pa_nil))))))), ?_⟩
    rintro ss A k ⟨⟨p, top⟩, rfl, hk⟩
    (try dsimp only [cxK] at hk); (try dsimp only [cxK])
    change Go _ _ _ [_, _, SV.no, SV.no, SV.no] _
    obtain ⟨hI, h2, h8, hk⟩ := hk
    walk_at "wp"
    refine ⟨(p, top - 1), rfl, hI, by simp only; omega, by simp only; omega, fun r1 r2 r3 => ?_⟩
    walk_at "wp"
    refine ⟨(p, top - 1), rfl, hI, by simp only; omega, by simp only; omega, fun s1 s2 s3 => ?_⟩
    simp only at r3 s3
    walk_at "wp"
    obtain ⟨n, e⟩ : ∃ n : Nat, 2 + r1 + (2 + s1) = n := ⟨(2 + r1 + (2 + s1)).toNat, by omega⟩
    rw [e]
    refine ⟨(p, n), rfl, hI, by show n ≤ 20; omega, fun ws hl hn hm => ?_⟩
    have hl : ws.length = n := hl
    walk_at "wp"
    refine sw_list ?_
    rw [cutD_map, cut_take (by omega) (by omega)]
    walk_at "wp"
    refine sw_list ?_
    rw [cutD_map, cut_drop (by omega) (by omega)]
    walk_at "wp"
    refine hk (ws.take (2 + r1).toNat) (ws.drop (2 + r1).toNat) ⟨?_, ?_, ?_, ?_, ?_, ?_⟩
    · rw [List.length_take]; omega
    · rw [List.length_take]; omega
    · rw [List.length_drop]; omega
    · rw [List.length_drop]; omega
    · rw [List.take_append_drop]; exact hn
    · rw [List.take_append_drop]; exact hm
def W__law_true : PySem.W.Frag → List SV → Amb → KA → Prop := fun K ss A k => ∃ x : Addr × List Str × List Str, ss = [.ptr x.1, .dat (shapeD x.2.1 x.2.2)] ∧ isDraw K A x.1 ∧ Shape x.2.1 x.2.2 ∧ ∀ (q : Addr) (g : Str → Int), Rise g x.2.1 → Rise g x.2.2 → k (A.add q (.dk ((x.2.1 ++ x.2.2).map fun w => (.inr w, .dat (.int (g w)))))) (.ptr q)
theorem ok__law_true (T : Tx w K mg) : FnOk P w K mg base CX0 3 T.f__law_true T.d__law_true ["draw", "shape"] (spW K (W__law_true K)) := by
  refine fn_go T.F__law_true sc__law_true (fun ss A k h => ?_) (fun cdv A outer s H E hr => ?_)
  · obtain ⟨i, rfl, _⟩ := h; rfl
  · have hu : (A.deeper (PyProof.Rows.envOfC "_law_true" (defScope s__law_true) s.heap.objs.size T.f__law_true cdv)).units + 65 < cLine := by have := hr.un; omega
    have hu1 := hu_of hr
    refine ⟨_, (pss_cons (ps_par (i := 2) (j := 3) rfl sc__law_true.nd rfl rfl (by decide) rfl rfl (pa_cons pe_dnewK (pa_cons (pe_call (ok__law_pick T) (hr.mono (by decide)) (by rfl) T.g__law_pick T.F__law_pick.kp T.b__law_pick .nil pass0 (pa_cons (pv 0) (pa_cons (pe_lst (pa_cons pe_int (pa_cons pe_int (pa_cons pe_int (pa_cons pe_int (pa_cons (pe_op op_pow pe_int pe_int) (pa_cons (pe_op op_pow pe_int pe_int) pa_nil))))))) pa_nil))) pa_nil)) (by rfl))
      (pss_cons (ps_for PassesOwn.never rfl (pi_tupK K (pv 1)) (pg_name (i := 4) sc__law_true.nd rfl (Or.inl rfl))
        (pss_cons (ps_set (i := 5) sc__law_true.nd rfl (Or.inl rfl) pe_int)
          (pss_one (ps_for PassesOwn.never rfl (pi_listK K (pv 4)) (pg_name (i := 6) sc__law_true.nd rfl (Or.inl rfl))
            (pss_cons (ps_dput hu1 (pv 2) (pv 6) (pv 5) rfl)
              (pss_one (ps_set (i := 5) sc__law_true.nd rfl (Or.inl rfl) (pe_op op_add (pe_op op_add (pv 5) pe_int) (pe_op op_mul (pe_call (ok__law_pick T) (hr.mono (by decide)) (by rfl) T.g__law_pick T.F__law_pick.kp T.b__law_pick .nil pass0 (pa_cons (pv 0) (pa_cons (pe_lst (pa_cons pe_int (pa_cons pe_int (pa_cons pe_int (pa_cons pe_int (pa_cons (pe_call (ok__law_take T) (hr.mono (by decide)) (by rfl) T.g__law_take T.F__law_take.kp T.b__law_take .nil pass0 (pa_cons (pv 0) (pa_cons pe_int pa_nil))) pa_nil)))))) pa_nil))) (pv 3))))))))))
      (pss_one (ps_ret (pv 2))))), ?_⟩
    rintro ss A k ⟨⟨p, a, b⟩, rfl, hk⟩
    (try dsimp only [cxK] at hk); (try dsimp only [cxK])
    change Go _ _ _ [_, _, SV.no, SV.no, SV.no, SV.no, SV.no] _
    obtain ⟨hI, hS, hk⟩ := hk
    obtain ⟨I, l⟩ := A
    walk_at "wp"
    refine fun q => ?_
    walk_at "wp"
    refine ⟨(p, _, _), rfl, hI, .inl rfl, by simp, by simp, fun d hd => ?_⟩
    obtain ⟨sc, rfl, s0, s1⟩ : ∃ z : Int, d = .int z ∧ 0 ≤ z ∧ z ≤ 10000000 := by
      have e6 : (10 : Int) ^ (6 : Int).toNat = 1000000 := by decide
      have e7 : (10 : Int) ^ (7 : Int).toNat = 10000000 := by decide
      simp only [e6, e7, List.mem_cons, List.not_mem_nil, or_false] at hd
      rcases hd with h | h | h | h | h | h <;> exact ⟨_, h, by decide, by decide⟩
    walk_at "wp"
    refine go_forM (enc := fun fam : List Str => .list (fam.map .str)) (xs := [a, b]) ?_
    refine iw_tup ?_
    walk_at "wp"
    refine ⟨rfl, fun j A1 S1 => ∃ L : List (Str × Int), A1 = ⟨I, (q, .dk (dkOf L)) :: l⟩ ∧ (∃ x4 x5 x6, S1 = [.ptr p, .dat (shapeD a b), .ptr q, .dat (.int sc), x4, x5, x6]) ∧ L.map (·.1) = ([a, b].take j).flatten ∧ ∀ fam ∈ [a, b].take j, Rise (valOf L) fam, ⟨[], rfl, ⟨_, _, _, rfl⟩, rfl, by simp⟩, ?_, ?_⟩
    · rintro j fam A1 S1 hj ⟨L, rfl, ⟨x4, x5, x6, rfl⟩, hkeys, hrise⟩
      have hnd : (L.map (·.1) ++ fam).Nodup ∧ fam.length ≤ 8 := by
        rw [hkeys]
        match j, hj with
        | 0, hj =>
          cases hj
          exact ⟨hS.nd.sublist (by simp), hS.a8⟩
        | 1, hj =>
          cases hj
          exact ⟨by simpa using hS.nd, hS.b8⟩
        | n + 2, hj => cases hj
      obtain ⟨hnd, hf8⟩ := hnd
      obtain ⟨hn1, hn2, hn3⟩ := List.nodup_append.mp hnd
      walk_at "wp"
      refine go_forM (enc := PyData.str) (xs := fam) ?_
      refine iw_list ?_
      walk_at "wp"
      refine ⟨rfl, fun m A2 S2 => ∃ (M : List (Str × Int)) (pl : Int), A2 = ⟨I, (q, .dk (dkOf (L ++ M))) :: l⟩ ∧ (∃ x6, S2 = [.ptr p, .dat (shapeD a b), .ptr q, .dat (.int sc), .dat (.list (fam.map .str)), .dat (.int pl), x6]) ∧ M.map (·.1) = fam.take m ∧ Fam M pl, ⟨[], 0, by rw [List.append_nil], ⟨_, rfl⟩, rfl, .nil⟩, ?_, ?_⟩
      · rintro m w A2 S2 hm ⟨M, pl, rfl, ⟨x6, rfl⟩, hmk, hF⟩
        have hml := (List.getElem?_eq_some_iff.mp hm).1
        have hMl : M.length = m := by
          have := congrArg List.length hmk
          rw [List.length_map, List.length_take] at this
          omega
        have hLl : L.length ≤ 16 := by
          have h0 := congrArg List.length hkeys
          rw [List.length_map] at h0
          rw [h0]
          have h1 := hS.a8
          match j, hj with
          | 0, _ => simp
          | 1, _ => simp; omega
          | n + 2, hj => cases hj
        have hw : ¬ w ∈ (L ++ M).map (·.1) := by
          rw [List.map_append, hmk]
          intro h
          rcases List.mem_append.mp h with h | h
          · exact hn3 w h w (List.mem_of_getElem? hm) rfl
          · obtain ⟨i, hi⟩ := List.getElem?_of_mem h
            rw [List.getElem?_take] at hi
            split at hi
            · rename_i hlt
              have := (List.getElem?_inj (List.getElem?_eq_some_iff.mp hi).1 hn2).mp (hi.trans hm.symm)
              omega
            · cases hi
        walk_at "wp"
        refine ⟨_, _, .inr w, _, rfl, rfl, by walk_at "upd", by rw [List.length_map, List.length_append]; exact szl (by omega), ?_⟩
        rw [putS_new hw]
        walk_at "wp"
        refine ⟨(p, 12), rfl, hI, by simp, by simp, fun r r0 r1 => ?_⟩
        simp only at r1
        walk_at "wp"
        refine ⟨(p, _, _), rfl, hI, .inl rfl, by simp, by simp, fun d hd => ?_⟩
        obtain ⟨v, rfl, v0, v1⟩ : ∃ z : Int, d = .int z ∧ 0 ≤ z ∧ z ≤ 11 := by
          simp only [List.mem_cons, List.not_mem_nil, or_false] at hd
          rcases hd with h | h | h | h | h
          · exact ⟨_, h, by decide, by decide⟩
          · exact ⟨_, h, by decide, by decide⟩
          · exact ⟨_, h, by decide, by decide⟩
          · exact ⟨_, h, by decide, by decide⟩
          · exact ⟨_, h, by omega, by omega⟩
        walk_at "wp"
        refine ⟨M ++ [(w, pl)], _, ?_, ⟨_, rfl⟩, ?_, hF.snoc (z := v * sc) (Int.mul_nonneg v0 s0) ?_⟩
        · have e : dkOf (L ++ (M ++ [(w, pl)])) = dkOf (L ++ M) ++ [(.inr w, .dat (.int pl))] := by simp [dkOf]
          rw [e]
        · rw [List.map_append, hmk, List.take_add_one, hm]
          rfl
        · have h1 : v * sc ≤ 11 * 10000000 := Int.mul_le_mul v1 s1 s0 (by decide)
          omega
      · rintro A2 S2 ⟨M, pl, rfl, ⟨x6, rfl⟩, hmk, hF⟩
        rw [List.take_length] at hmk
        refine ⟨L ++ M, rfl, ⟨_, _, _, rfl⟩, ?_, fun f hf => ?_⟩
        · rw [List.map_append, hkeys, hmk, List.take_add_one, hj, List.flatten_append]
          simp
        · rw [List.take_add_one, hj] at hf
          rcases List.mem_append.mp hf with hf | hf
          · refine (hrise f hf).congr fun w hw => (val_app fun h => ?_).symm
            rw [hmk] at h
            exact hn3 w (by rw [hkeys]; exact List.mem_flatten.mpr ⟨f, hf, hw⟩) w h rfl
          · have : f = fam := by simpa using hf
            subst this
            have hr := hF.rise (by have := congrArg List.length hmk; rw [List.length_map] at this; omega) (by rw [hmk]; exact hn2)
            rw [hmk] at hr
            exact hr.congr fun w hw => (val_app2 fun h => hn3 w h w hw rfl).symm
    · rintro A1 S1 ⟨L, rfl, ⟨x4, x5, x6, rfl⟩, hkeys, hrise⟩
      walk_at "wp"
      have hkeys : L.map (·.1) = a ++ b := by simpa using hkeys
      have e : dkOf L = (a ++ b).map fun w => (.inr w, .dat (.int (valOf L w))) := by
        have h1 := val_keys (L := L) (by rw [hkeys]; exact hS.nd)
        rw [hkeys] at h1
        have h2 := congrArg (List.map fun q : Str × Int => ((.inr q.1, .dat (.int q.2)) : Key × SV)) h1
        rw [List.map_map] at h2
        exact h2
      rw [e]
      exact hk q (valOf L) (hrise a (by simp)) (hrise b (by simp))
def W__law_sight : PySem.W.Frag → List SV → Amb → KA → Prop := fun K ss A k => ∃ x : Addr × Addr × List Str × List Str × (Str → Int) × Int, ss = [.ptr x.1, .dat (shapeD x.2.2.1 x.2.2.2.1), .ptr x.2.1, .dat (.int x.2.2.2.2.2)] ∧ isDraw K A x.1 ∧ Shape x.2.2.1 x.2.2.2.1 ∧ Rise x.2.2.2.2.1 x.2.2.1 ∧ Rise x.2.2.2.2.1 x.2.2.2.1 ∧ (x.2.1, Cell.dk ((x.2.2.1 ++ x.2.2.2.1).map fun w => (.inr w, .dat (.int (x.2.2.2.2.1 w))))) ∈ A.cells ∧ 0 ≤ x.2.2.2.2.2 ∧ x.2.2.2.2.2 < 1000 ∧ ∀ x2 y lo hi, Sighted x.2.2.1 x.2.2.2.1 x.2.2.2.2.1 x.2.2.2.2.2 x2 y lo hi → k A (.dat (.tuple [.str x2, .str y, bndD lo, bndD hi]))
theorem ok__law_sight (T : Tx w K mg) : FnOk P w K mg base CX0 3 T.f__law_sight T.d__law_sight ["draw", "shape", "true", "odd"] (spW K (W__law_sight K)) := by
  refine fn_go T.F__law_sight sc__law_sight (fun ss A k h => ?_) (fun cdv A outer s H E hr => ?_)
  · obtain ⟨i, rfl, _⟩ := h; rfl
  · have hu : (A.deeper (PyProof.Rows.envOfC "_law_sight" (defScope s__law_sight) s.heap.objs.size T.f__law_sight cdv)).units + 65 < cLine := by have := hr.un; omega
    have hu1 := hu_of hr
    refine ⟨_, (pss_cons (ps_set (i := 4) sc__law_sight.nd rfl (Or.inl rfl) (pe_call (ok__law_pick T) (hr.mono (by decide)) (by rfl) T.g__law_pick T.F__law_pick.kp T.b__law_pick .nil pass0 (pa_cons (pv 0) (pa_cons (pe_callTy (call_listK K) (by rfl) T.n_list (by decide +kernel) (pa_cons (pv 1) pa_nil)) pa_nil))))
      (pss_cons (ps_set (i := 5) sc__law_sight.nd rfl (Or.inl rfl) (pe_call (ok__law_take T) (hr.mono (by decide)) (by rfl) T.g__law_take T.F__law_take.kp T.b__law_take .nil pass0 (pa_cons (pv 0) (pa_cons (pe_callB (call_lenK K) (by rfl) T.n_len (by decide +kernel) (pa_cons (pv 4) pa_nil)) pa_nil))))
      (pss_cons (ps_set (i := 6) sc__law_sight.nd rfl (Or.inl rfl) (pe_op op_mod (pe_op op_add (pe_op op_add (pv 5) pe_int) (pe_call (ok__law_take T) (hr.mono (by decide)) (by rfl) T.g__law_take T.F__law_take.kp T.b__law_take .nil pass0 (pa_cons (pv 0) (pa_cons (pe_op op_sub (pe_callB (call_lenK K) (by rfl) T.n_len (by decide +kernel) (pa_cons (pv 4) pa_nil)) pe_int) pa_nil)))) (pe_callB (call_lenK K) (by rfl) T.n_len (by decide +kernel) (pa_cons (pv 4) pa_nil))))
      (pss_cons (ps_set (i := 7) sc__law_sight.nd rfl (Or.inl rfl) (pe_op op_sub (pe_dget hu1 (pv 2) (pe_ix (ixK K) (pv 4) (pv 6) (fun _ _ => rfl)) (fun _ _ => rfl)) (pe_dget hu1 (pv 2) (pe_ix (ixK K) (pv 4) (pv 5) (fun _ _ => rfl)) (fun _ _ => rfl))))
      (pss_cons (ps_if (PW.pt (pw_and (pt_cmpR op_gt (pv 3) pe_int (nomark _)) (pw_and1 (pt_cmpR (op_eqK K hu) (pe_call (ok__law_take T) (hr.mono (by decide)) (by rfl) T.g__law_take T.F__law_take.kp T.b__law_take .nil pass0 (pa_cons (pv 0) (pa_cons (pv 3) pa_nil))) pe_int (nomark _)))))
        (pss_one (ps_set (i := 7) sc__law_sight.nd rfl (Or.inl rfl) (pe_op op_sub (pe_op op_add (pv 7) (pe_call (ok__law_take T) (hr.mono (by decide)) (by rfl) T.g__law_take T.F__law_take.kp T.b__law_take .nil pass0 (pa_cons (pv 0) (pa_cons pe_int pa_nil)))) pe_int)))
        pss_nil)
      (pss_cons (ps_set (i := 8) sc__law_sight.nd rfl (Or.inl rfl) (pe_op op_sub (pv 7) (pe_call (ok__law_pick T) (hr.mono (by decide)) (by rfl) T.g__law_pick T.F__law_pick.kp T.b__law_pick .nil pass0 (pa_cons (pv 0) (pa_cons (pe_lst (pa_cons pe_int (pa_cons pe_int (pa_cons pe_int (pa_cons (pe_call (ok__law_take T) (hr.mono (by decide)) (by rfl) T.g__law_take T.F__law_take.kp T.b__law_take .nil pass0 (pa_cons (pv 0) (pa_cons pe_int pa_nil))) pa_nil))))) pa_nil)))))
      (pss_cons (ps_set (i := 9) sc__law_sight.nd rfl (Or.inl rfl) (pe_op op_add (pv 7) (pe_call (ok__law_pick T) (hr.mono (by decide)) (by rfl) T.g__law_pick T.F__law_pick.kp T.b__law_pick .nil pass0 (pa_cons (pv 0) (pa_cons (pe_lst (pa_cons pe_int (pa_cons pe_int (pa_cons pe_int (pa_cons (pe_call (ok__law_take T) (hr.mono (by decide)) (by rfl) T.g__law_take T.F__law_take.kp T.b__law_take .nil pass0 (pa_cons (pv 0) (pa_cons pe_int pa_nil))) pa_nil))))) pa_nil)))))
      (pss_cons (ps_set (i := 10) sc__law_sight.nd rfl (Or.inl rfl) (pe_call (ok__law_take T) (hr.mono (by decide)) (by rfl) T.g__law_take T.F__law_take.kp T.b__law_take .nil pass0 (pa_cons (pv 0) (pa_cons pe_int pa_nil))))
      (pss_cons (ps_if (pt_cmpR (op_eqK K hu) (pv 10) pe_int (nomark _))
        (pss_one (ps_set (i := 8) sc__law_sight.nd rfl (Or.inl rfl) pe_non))
        pss_nil)
      (pss_cons (ps_if (pt_cmpR (op_eqK K hu) (pv 10) pe_int (nomark _))
        (pss_one (ps_set (i := 9) sc__law_sight.nd rfl (Or.inl rfl) pe_non))
        pss_nil)
      (pss_one (ps_ret (pe_tup (pa_cons (pe_ix (ixK K) (pv 4) (pv 5) (fun _ _ => rfl)) (pa_cons (pe_ix (ixK K) (pv 4) (pv 6) (fun _ _ => rfl)) (pa_cons (pv 8) (pa_cons (pv 9) pa_nil))))))))))))))))), ?_⟩
    rintro ss A k ⟨⟨p, q, a, b, g, odd⟩, rfl, hk⟩
    (try dsimp only [cxK] at hk); (try dsimp only [cxK])
    change Go _ _ _ [_, _, _, _, SV.no, SV.no, SV.no, SV.no, SV.no, SV.no, SV.no] _
    obtain ⟨hI, hS, hra, hrb, hq, o0, o1, hk⟩ := hk
    obtain ⟨I, l⟩ := A
    walk_at "go"
    refine cw_frz (cw_listD (.inr rfl) fun z => ⟨z, _, _, rfl, .head, ?_⟩)
    walk_at "go"
    refine ⟨(p, _, [.list (a.map .str), .list (b.map .str)]), rfl, hI, .inl rfl, by simp, by simp, fun d hd => ?_⟩
    obtain ⟨ws, hws, rfl, w2, w8, wm, wr, wn⟩ : ∃ ws : List Str, (ws = a ∨ ws = b) ∧ d = .list (ws.map .str) ∧ 2 ≤ ws.length ∧ ws.length ≤ 8 ∧ (∀ w ∈ ws, w ∈ a ++ b) ∧ Rise g ws ∧ ws.Nodup := by
      simp only [List.mem_cons, List.not_mem_nil, or_false] at hd
      rcases hd with h | h
      · exact ⟨a, .inl rfl, h, hS.a2, hS.a8, fun w hw => List.mem_append_left _ hw, hra, (List.nodup_append.mp hS.nd).1⟩
      · exact ⟨b, .inr rfl, h, hS.b2, hS.b8, fun w hw => List.mem_append_right _ hw, hrb, (List.nodup_append.mp hS.nd).2.1⟩
    clear hd
    walk_at "go"
    rw [List.length_map]
    refine ⟨(p, (ws.length : Int)), rfl, hI, by simp only; omega, by simp only; omega, fun r0 r1 r2 => ?_⟩
    simp only at r2
    walk_at "go"
    rw [List.length_map]
    refine ⟨(p, (ws.length : Int) - 1), rfl, hI, by simp only; omega, by simp only; omega, fun t0 t1 t2 => ?_⟩
    simp only at t2
    walk_at "go"
    rw [List.length_map]
    refine rw_I (g := fun i j => .int (i % j)) (by show (0 : Int) < _; omega) rfl ?_
    obtain ⟨s0, s1, s2⟩ : 0 ≤ (r0 + 1 + t0) % (ws.length : Int) ∧ (r0 + 1 + t0) % (ws.length : Int) < ws.length ∧ (r0 + 1 + t0) % (ws.length : Int) ≠ r0 := by
      refine ⟨Int.emod_nonneg _ (by omega), Int.emod_lt_of_pos _ (by omega), fun e => ?_⟩
      have h1 := Int.emod_add_mul_ediv (r0 + 1 + t0) ws.length
      rw [e] at h1
      have h2 : (1 + t0) = ws.length * ((r0 + 1 + t0) / (ws.length : Int)) := by omega
      have h3 : 0 < (r0 + 1 + t0) / (ws.length : Int) := by
        refine Int.lt_of_not_ge fun h => ?_
        have := Int.mul_le_mul_of_nonneg_left h (show (0 : Int) ≤ ws.length by omega)
        omega
      have h4 := Int.mul_le_mul_of_nonneg_left (show (1 : Int) ≤ (r0 + 1 + t0) / (ws.length : Int) by omega) (show (0 : Int) ≤ ws.length by omega)
      omega
    generalize (r0 + 1 + t0) % (ws.length : Int) = s at s0 s1 s2 ⊢
    obtain ⟨x, hx⟩ : ∃ x, ws[r0.toNat]? = some x := ⟨_, List.getElem?_eq_getElem (by omega)⟩
    obtain ⟨y, hy⟩ : ∃ y, ws[s.toNat]? = some y := ⟨_, List.getElem?_eq_getElem (by omega)⟩
    have hxy : x ≠ y := nodup_ne wn hx hy (by omega)
    have hxm := List.mem_of_getElem? hx
    have hym := List.mem_of_getElem? hy
    have ex : atI (ws.map PyData.str) r0 = some (.str x) := atI_at r1 (by rw [List.getElem?_map, hx]; rfl)
    have ey : atI (ws.map PyData.str) s = some (.str y) := atI_at s0 (by rw [List.getElem?_map, hy]; rfl)
    walk_at "go"
    refine rw_ixL ey ?_
    refine ⟨_, _, .inr y, _, rfl, rfl, hq, look_map (wm y hym), ?_⟩
    walk_at "go"
    refine rw_ixL ex ?_
    refine ⟨_, _, .inr x, _, rfl, rfl, hq, look_map (wm x hxm), ?_⟩
    walk_at "goe"
    have b1 := wr.lo x hxm
    have b2 := wr.hi x hxm
    have b3 := wr.lo y hym
    have b4 := wr.hi y hym
    have fin : ∀ ap : Int, -900000004 ≤ ap → ap ≤ 900000004 → (odd = 0 → ap = g y - g x) → ∀ lo hi : Option Int, ¬(lo = none ∧ hi = none) → (∀ i, lo = some i → ap - 20 ≤ i ∧ i ≤ ap) → (∀ i, hi = some i → ap ≤ i ∧ i ≤ ap + 20) → Sighted a b g odd x y lo hi := by
      intro ap a1 a2 a3 lo hi h1 h2 h3
      refine ⟨?_, hxy, h1, fun i e => ?_, fun i e => ?_, fun e i e2 => ?_, fun e i e2 => ?_⟩
      · rcases hws with rfl | rfl
        · exact .inl ⟨hxm, hym⟩
        · exact .inr ⟨hxm, hym⟩
      · have := h2 i e; omega
      · have := h3 i e; omega
      · have := h2 i e2; have := a3 e; omega
      · have := h3 i e2; have := a3 e; omega
    refine go_seq ?_
    refine go_cut (fun A2 S2 => A2 = ⟨I, l⟩ ∧ ∃ ap : Int, -900000004 ≤ ap ∧ ap ≤ 900000004 ∧ (odd = 0 → ap = g y - g x) ∧ S2 = [.ptr p, .dat (shapeD a b), .ptr q, .dat (.int odd), .dat (.list (ws.map .str)), .dat (.int r0), .dat (.int s), .dat (.int ap), .no, .no, .no]) ?_ ?_
    · walk_at "go"
      refine ⟨fun h0 => ?_, fun h0 => ?_⟩
      · have h0 := of_decide_eq_true h0
        walk_at "go"
        refine ⟨(p, odd), rfl, hI, by simp only; omega, by simp only; omega, fun r3 r4 r5 => ?_⟩
        walk_at "go"
        refine ⟨fun _ => ?_, fun _ => ?_⟩
        · walk_at "go"
          refine ⟨(p, 9), rfl, hI, by simp, by simp, fun r6 r7 r8 => ?_⟩
          simp only at r8
          walk_at "go"
          exact ⟨rfl, _, by omega, by omega, fun h => by omega, rfl⟩
        · walk_at "go"
          exact ⟨rfl, _, by omega, by omega, fun _ => rfl, rfl⟩
      · walk_at "go"
        exact ⟨rfl, _, by omega, by omega, fun _ => rfl, rfl⟩
    rintro A2 S2 ⟨rfl, ap, a1, a2, a3, rfl⟩
    walk_at "go"
    refine ⟨(p, 20), rfl, hI, by simp, by simp, fun r3 r4 r5 => ?_⟩
    simp only at r5
    walk_at "go"
    refine ⟨(p, _, _), rfl, hI, .inl rfl, by simp, by simp, fun d hd => ?_⟩
    obtain ⟨v, rfl, v0, v1⟩ : ∃ v : Int, d = .int v ∧ 0 ≤ v ∧ v ≤ 20 := by
      simp only [List.mem_cons, List.not_mem_nil, or_false] at hd
      rcases hd with h | h | h | h
      · exact ⟨_, h, by decide, by decide⟩
      · exact ⟨_, h, by decide, by decide⟩
      · exact ⟨_, h, by decide, by decide⟩
      · exact ⟨_, h, by omega, by omega⟩
    clear hd
    walk_at "go"
    refine ⟨(p, 20), rfl, hI, by simp, by simp, fun t3 t4 t5 => ?_⟩
    simp only at t5
    walk_at "go"
    refine ⟨(p, _, _), rfl, hI, .inl rfl, by simp, by simp, fun d hd => ?_⟩
    obtain ⟨u, rfl, u0, u1⟩ : ∃ v : Int, d = .int v ∧ 0 ≤ v ∧ v ≤ 20 := by
      simp only [List.mem_cons, List.not_mem_nil, or_false] at hd
      rcases hd with h | h | h | h
      · exact ⟨_, h, by decide, by decide⟩
      · exact ⟨_, h, by decide, by decide⟩
      · exact ⟨_, h, by decide, by decide⟩
      · exact ⟨_, h, by omega, by omega⟩
    clear hd
    walk_at "go"
    refine ⟨(p, 6), rfl, hI, by simp, by simp, fun so so0 so1 => ?_⟩
    walk_at "goe"
    refine go_seq ?_
    refine go_cut (fun A2 S2 => A2 = ⟨I, l⟩ ∧ S2 = [.ptr p, .dat (shapeD a b), .ptr q, .dat (.int odd), .dat (.list (ws.map .str)), .dat (.int r0), .dat (.int s), .dat (.int ap), .dat (bndD (if so = 0 then none else some (ap - v))), .dat (.int (ap + u)), .dat (.int so)]) ?_ ?_
    · walk_at "go"
      refine ⟨fun h => ?_, fun h => ?_⟩
      · walk_at "go"
        have h : so = 0 := by simpa [PyData.eqv] using h
        rw [if_pos h]
        exact ⟨rfl, rfl⟩
      · walk_at "go"
        have h : ¬ so = 0 := by simpa [PyData.eqv] using h
        rw [if_neg h]
        exact ⟨rfl, rfl⟩
    rintro A2 S2 ⟨rfl, rfl⟩
    refine go_seq ?_
    refine go_cut (fun A2 S2 => A2 = ⟨I, l⟩ ∧ S2 = [.ptr p, .dat (shapeD a b), .ptr q, .dat (.int odd), .dat (.list (ws.map .str)), .dat (.int r0), .dat (.int s), .dat (.int ap), .dat (bndD (if so = 0 then none else some (ap - v))), .dat (bndD (if so = 1 then none else some (ap + u))), .dat (.int so)]) ?_ ?_
    · walk_at "go"
      refine ⟨fun h => ?_, fun h => ?_⟩
      · walk_at "go"
        have h : so = 1 := by simpa [PyData.eqv] using h
        have e : (if so = 1 then none else some (ap + u)) = none := if_pos h
        rw [e]
        exact ⟨rfl, rfl⟩
      · walk_at "go"
        have h : ¬ so = 1 := by simpa [PyData.eqv] using h
        have e : (if so = 1 then none else some (ap + u)) = some (ap + u) := if_neg h
        rw [e]
        exact ⟨rfl, rfl⟩
    rintro A2 S2 ⟨rfl, rfl⟩
    walk_at "go"
    refine rw_ixL ex ?_
    walk_at "go"
    refine rw_ixL ey ?_
    walk_at "go"
    refine hk x y _ _ (fin ap a1 a2 a3 _ _ ?_ ?_ ?_)
    · rintro ⟨h1, h2⟩
      split at h1
      · split at h2
        · omega
        · cases h2
      · cases h1
    · intro i h
      split at h
      · cases h
      · cases h; omega
    · intro i h
      split at h
      · cases h
      · cases h; omega
def W__law_point : PySem.W.Frag → List SV → Amb → KA → Prop := fun K ss A k => ∃ x : Addr × Addr × List Str × List Str × (Str → Int), ss = [.ptr x.1, .dat (shapeD x.2.2.1 x.2.2.2.1), .ptr x.2.1] ∧ isDraw K A x.1 ∧ Shape x.2.2.1 x.2.2.2.1 ∧ Rise x.2.2.2.2 x.2.2.1 ∧ Rise x.2.2.2.2 x.2.2.2.1 ∧ (x.2.1, Cell.dk ((x.2.2.1 ++ x.2.2.2.1).map fun w => (.inr w, .dat (.int (x.2.2.2.2 w))))) ∈ A.cells ∧ ∀ q1 q2, PtOk x.2.2.1 q1 → PtOk x.2.2.2.1 q2 → k A (.dat (.tuple [ptD q1, ptD q2]))
theorem ok__law_point (T : Tx w K mg) : FnOk P w K mg base CX0 3 T.f__law_point T.d__law_point ["draw", "shape", "true"] (spW K (W__law_point K)) := by
  refine fn_go T.F__law_point sc__law_point (fun ss A k h => ?_) (fun cdv A outer s H E hr => ?_)
  · obtain ⟨i, rfl, _⟩ := h; rfl
  · have hu : (A.deeper (PyProof.Rows.envOfC "_law_point" (defScope s__law_point) s.heap.objs.size T.f__law_point cdv)).units + 65 < cLine := by have := hr.un; omega
    have hu1 := hu_of hr
    refine ⟨_, (pss_cons (ps_set (i := 3) sc__law_point.nd rfl (Or.inl rfl) (pe_lst pa_nil))
      (pss_cons (ps_for PassesOwn.never rfl (pi_tupK K (pv 1)) (pg_name (i := 4) sc__law_point.nd rfl (Or.inl rfl))
        (pss_cons (ps_par (i := 5) (j := 6) rfl sc__law_point.nd rfl rfl (by decide) rfl rfl (pa_cons (pe_call (ok__law_pick T) (hr.mono (by decide)) (by rfl) T.g__law_pick T.F__law_pick.kp T.b__law_pick .nil pass0 (pa_cons (pv 0) (pa_cons (pv 4) pa_nil))) (pa_cons (pe_call (ok__law_pick T) (hr.mono (by decide)) (by rfl) T.g__law_pick T.F__law_pick.kp T.b__law_pick .nil pass0 (pa_cons (pv 0) (pa_cons (pv 4) pa_nil))) pa_nil)) (by rfl))
          (pss_cons (ps_set (i := 7) sc__law_point.nd rfl (Or.inl rfl) (pe_op op_add (pe_op op_sub (pe_dget hu1 (pv 2) (pv 6) (fun _ _ => rfl)) (pe_dget hu1 (pv 2) (pv 5) (fun _ _ => rfl))) (pe_call (ok__law_pick T) (hr.mono (by decide)) (by rfl) T.g__law_pick T.F__law_pick.kp T.b__law_pick .nil pass0 (pa_cons (pv 0) (pa_cons (pe_lst (pa_cons pe_int (pa_cons pe_int (pa_cons pe_int (pa_cons (pe_un un_neg pe_int) (pa_cons (pe_op op_sub (pe_call (ok__law_take T) (hr.mono (by decide)) (by rfl) T.g__law_take T.F__law_take.kp T.b__law_take .nil pass0 (pa_cons (pv 0) (pa_cons pe_int pa_nil))) pe_int) pa_nil)))))) pa_nil)))))
          (pss_cons (ps_if (pt_cmpR (op_eqK K hu) (pe_call (ok__law_take T) (hr.mono (by decide)) (by rfl) T.g__law_take T.F__law_take.kp T.b__law_take .nil pass0 (pa_cons (pv 0) (pa_cons pe_int pa_nil))) pe_int (nomark _))
            (pss_one (ps_set (i := 7) sc__law_point.nd rfl (Or.inl rfl) (pe_call (ok__law_pick T) (hr.mono (by decide)) (by rfl) T.g__law_pick T.F__law_pick.kp T.b__law_pick .nil pass0 (pa_cons (pv 0) (pa_cons (pe_lst (pa_cons (pe_op op_pow pe_int pe_int) (pa_cons (pe_un un_neg (pe_op op_pow pe_int pe_int)) (pa_cons (pe_op op_sub (pe_call (ok__law_take T) (hr.mono (by decide)) (by rfl) T.g__law_take T.F__law_take.kp T.b__law_take .nil pass0 (pa_cons (pv 0) (pa_cons (pe_op op_add (pe_op op_mul pe_int (pe_op op_pow pe_int pe_int)) pe_int) pa_nil))) (pe_op op_pow pe_int pe_int)) pa_nil)))) pa_nil)))))
            pss_nil)
          (pss_one (ps_expr (pe_bmK K PySem.F.plainAttrs_list PySem.F.slot_list_append PySem.F.type_list_append mt_append (pv 3) (pa_cons (pe_tup (pa_cons (pv 5) (pa_cons (pv 7) pa_nil))) pa_nil))))))))
      (pss_one (ps_ret (pe_callTy (call_tupK K) (by rfl) T.n_tuple (by decide +kernel) (pa_cons (pv 3) pa_nil)))))), ?_⟩
    rintro ss A k ⟨⟨p, q, a, b, g⟩, rfl, hk⟩
    (try dsimp only [cxK] at hk); (try dsimp only [cxK])
    change Go _ _ _ [_, _, _, SV.no, SV.no, SV.no, SV.no, SV.no] _
    obtain ⟨hI, hS, hra, hrb, hq, hk⟩ := hk
    obtain ⟨I, l⟩ := A
    refine go_seq ?_
    refine go_set ?_
    refine wp_lstO ?_
    walk_at "wp1"
    refine ⟨Nat.zero_le _, fun z => ?_⟩
    walk_at "wp"
    have hf : ∀ (j : Nat) (fam : List Str), [a, b][j]? = some fam → j ≤ 1 ∧ (∀ w ∈ fam, w ∈ a ++ b) ∧ Rise g fam ∧ 2 ≤ fam.length ∧ fam.length ≤ 8 := by
      intro j fam ht
      match j, ht with
      | 0, ht => cases ht; exact ⟨by decide, fun w hw => List.mem_append_left _ hw, hra, hS.a2, hS.a8⟩
      | 1, ht => cases ht; exact ⟨by decide, fun w hw => List.mem_append_right _ hw, hrb, hS.b2, hS.b8⟩
      | n + 2, ht => cases ht
    refine go_forM (enc := fun fam : List Str => .list (fam.map .str)) (xs := [a, b]) ?_
    refine iw_tup ?_
    walk_at "wp"
    refine ⟨rfl, fun j A1 S1 => ∃ pts : List (Str × Int), A1 = ⟨I, (z, .lst ((pts.map ptD).map .dat)) :: l⟩ ∧ (∃ x4 x5 x6 x7, S1 = [.ptr p, .dat (shapeD a b), .ptr q, .ptr z, x4, x5, x6, x7]) ∧ pts.length = j ∧ ∀ i pt, pts[i]? = some pt → ∃ fam, [a, b][i]? = some fam ∧ PtOk fam pt, ⟨[], rfl, ⟨_, _, _, _, rfl⟩, rfl, fun i pt h => absurd h (by rw [List.getElem?_nil]; exact fun z => nomatch z)⟩, ?_, ?_⟩
    · rintro j fam A1 S1 hj ⟨pts, rfl, ⟨x4, x5, x6, x7, rfl⟩, hl, hp⟩
      obtain ⟨f1, f2, f3, f4, f5⟩ := hf j fam hj
      have hcell : (q, Cell.dk ((a ++ b).map fun w => (.inr w, .dat (.int (g w))))) ∈ (z, Cell.lst ((pts.map ptD).map .dat)) :: l := List.mem_cons_of_mem _ hq
      have hne : fam.map PyData.str ≠ [] := by
        intro e
        have := congrArg List.length e
        rw [List.length_map, List.length_nil] at this
        omega
      have hll : (fam.map PyData.str).length < 1000000 := by rw [List.length_map]; omega
      walk_at "wp"
      refine ⟨(p, _, fam.map .str), rfl, hI, .inl rfl, hne, hll, fun d hd => ?_⟩
      obtain ⟨w1, hw1, rfl⟩ := List.mem_map.mp hd
      walk_at "wp"
      refine ⟨(p, _, fam.map .str), rfl, hI, .inl rfl, hne, hll, fun d2 hd2 => ?_⟩
      obtain ⟨w2, hw2, rfl⟩ := List.mem_map.mp hd2
      have b1 := f3.lo w1 hw1
      have b2 := f3.hi w1 hw1
      have b3 := f3.lo w2 hw2
      have b4 := f3.hi w2 hw2
      walk_at "wp"
      refine ⟨_, _, .inr w2, _, rfl, rfl, hcell, look_map (f2 _ hw2), ?_⟩
      walk_at "wp"
      refine ⟨_, _, .inr w1, _, rfl, rfl, hcell, look_map (f2 _ hw1), ?_⟩
      walk_at "wp"
      refine ⟨(p, 9), rfl, hI, by simp, by simp, fun r r0 r1 => ?_⟩
      simp only at r1
      walk_at "wp"
      refine ⟨(p, _, _), rfl, hI, .inl rfl, by simp, by simp, fun d3 hd3 => ?_⟩
      obtain ⟨v, rfl, v0, v1⟩ : ∃ v : Int, d3 = .int v ∧ -4 ≤ v ∧ v ≤ 4 := by
        simp only [List.mem_cons, List.not_mem_nil, or_false] at hd3
        rcases hd3 with h | h | h | h | h
        · exact ⟨_, h, by decide, by decide⟩
        · exact ⟨_, h, by decide, by decide⟩
        · exact ⟨_, h, by decide, by decide⟩
        · exact ⟨_, h, by decide, by decide⟩
        · exact ⟨_, h, by omega, by omega⟩
      walk_at "wp"
      refine ⟨(p, 8), rfl, hI, by simp, by simp, fun r2 r3 r4 => ?_⟩
      walk_at "wp"
      refine if_join (fun A2 S2 => A2 = ⟨I, (z, .lst ((pts.map ptD).map .dat)) :: l⟩ ∧ ∃ f : Int, -1000000000 ≤ f ∧ f ≤ 1000000000 ∧ ∃ x6, S2 = [.ptr p, .dat (shapeD a b), .ptr q, .ptr z, .dat (.list (fam.map .str)), .dat (.str w1), x6, .dat (.int f)]) (fun _ => ?_) (fun _ => ?_) ?_
      · walk_at "wp"
        refine ⟨(p, _), rfl, hI, by show (0 : Int) < 2 * 10 ^ (9 : Int).toNat + 1; decide, by show (2 * 10 ^ (9 : Int).toNat + 1 : Int) < 1099511627776; decide, fun r5 r6 r7 => ?_⟩
        have r7 : r5 < 2 * 10 ^ (9 : Int).toNat + 1 := r7
        have e9 : (10 : Int) ^ (9 : Int).toNat = 1000000000 := by decide
        rw [e9] at r7
        walk_at "wp"
        refine ⟨(p, _, _), rfl, hI, .inl rfl, by simp, by simp, fun d3 hd3 => ?_⟩
        obtain ⟨v, rfl, v0, v1⟩ : ∃ v : Int, d3 = .int v ∧ -1000000000 ≤ v ∧ v ≤ 1000000000 := by
          simp only [e9, List.mem_cons, List.not_mem_nil, or_false] at hd3
          rcases hd3 with h | h | h
          · exact ⟨_, h, by decide, by decide⟩
          · exact ⟨_, h, by decide, by decide⟩
          · exact ⟨_, h, by omega, by omega⟩
        exact ⟨rfl, v, v0, v1, _, rfl⟩
      · walk_at "wp"
        exact ⟨rfl, _, by omega, by omega, _, rfl⟩
      rintro A2 S2 ⟨rfl, f, g0, g1, x6, rfl⟩
      walk_at "wp"
      refine wp_append ?_
      walk_at "wp"
      refine ⟨_, _, rfl, by walk_at "cell", ?_⟩
      walk_at "wp"
      refine ⟨_, _, by walk_at "upd", by rw [List.length_map, List.length_map]; exact szl (by omega), ?_⟩
      refine ⟨pts ++ [(w1, f)], by rw [List.map_append, List.map_append]; rfl, ⟨_, _, _, _, rfl⟩, by simp [hl], fun i pt hi => ?_⟩
      by_cases h : i < pts.length
      · rw [List.getElem?_append_left h] at hi
        exact hp i pt hi
      · rw [List.getElem?_append_right (by omega)] at hi
        have hi0 : i - pts.length = 0 := by
          have := (List.getElem?_eq_some_iff.mp hi).1
          simp only [List.length_cons, List.length_nil] at this
          omega
        rw [hi0] at hi
        cases hi
        have : i = j := by omega
        subst this
        exact ⟨fam, hj, hw1, g0, g1⟩
    · rintro A1 S1 ⟨pts, rfl, ⟨x4, x5, x6, x7, rfl⟩, hl, hp⟩
      refine go_ret ?_
      refine wp_drop ?_
      walk_at "wp"
      refine cw_tupP (by walk_at "cell") ?_
      refine ⟨z, _, _, .head, ?_⟩
      match pts, hl, hp with
      | [q1, q2], _, hp =>
        obtain ⟨f1, e1, o1⟩ := hp 0 q1 rfl
        obtain ⟨f2, e2, o2⟩ := hp 1 q2 rfl
        cases e1
        cases e2
        exact hk q1 q2 o1 o2
def W__law_bound_text : List SV → Amb → KA → Prop := fun ss A k => ∃ o : Option Int, ss = [.dat (bndD o)] ∧ smallO o ∧ k A (.dat (.str (bndS o)))
theorem ok__law_bound_text (T : Tx w K mg) : FnOk P w K mg base CX0 1 T.f__law_bound_text T.d__law_bound_text ["bound"] (spW K (W__law_bound_text)) := by
  refine fn_go T.F__law_bound_text sc__law_bound_text (fun ss A k h => ?_) (fun cdv A outer s H E hr => ?_)
  · obtain ⟨i, rfl, _⟩ := h; rfl
  · have hu : (A.deeper (PyProof.Rows.envOfC "_law_bound_text" (defScope s__law_bound_text) s.heap.objs.size T.f__law_bound_text cdv)).units + 65 < cLine := by have := hr.un; omega
    have hu1 := hu_of hr
    refine ⟨_, (pss_one (ps_ret (pe_ifExp (pt_cmpR op_isN1 (pv 0) pe_non (nomark _)) pe_str (pe_callTy call_strU (by rfl) T.n_str (by decide +kernel) (pa_cons (pv 0) pa_nil))))), ?_⟩
    rintro ss A k ⟨i, rfl, hk⟩
    (try dsimp only [cxK] at hk); (try dsimp only [cxK])
    change Go _ _ _ [_] _
    obtain ⟨ho, hk⟩ := hk
    cases i with
    | none =>
      walk_at "go"
      exact hk
    | some j =>
      have hj := ho j rfl
      walk_at "go"
      refine cw_strU (i := j) rfl ?_ hk
      by_cases z : j.natAbs = 0
      · rw [z]; decide
      · have := (Nat.log2_lt z (k := 400)).mpr (Nat.lt_trans hj (by decide))
        omega
def W__law_sight_text : List SV → Amb → KA → Prop := fun ss A k => ∃ x : Str × Str × Option Int × Option Int, ss = [.dat (.tuple [.str x.1, .str x.2.1, bndD x.2.2.1, bndD x.2.2.2])] ∧ IsName x.1 ∧ IsName x.2.1 ∧ smallO x.2.2.1 ∧ smallO x.2.2.2 ∧ k A (.dat (.str (sightS x.1 x.2.1 x.2.2.1 x.2.2.2)))
theorem ok__law_sight_text (T : Tx w K mg) : FnOk P w K mg base CX0 2 T.f__law_sight_text T.d__law_sight_text ["seen"] (spW K (W__law_sight_text)) := by
  refine fn_go T.F__law_sight_text sc__law_sight_text (fun ss A k h => ?_) (fun cdv A outer s H E hr => ?_)
  · obtain ⟨i, rfl, _⟩ := h; rfl
  · have hu : (A.deeper (PyProof.Rows.envOfC "_law_sight_text" (defScope s__law_sight_text) s.heap.objs.size T.f__law_sight_text cdv)).units + 65 < cLine := by have := hr.un; omega
    have hu1 := hu_of hr
    refine ⟨_, (pss_one (ps_ret (pe_op op_addS (pe_op op_addS (pe_op op_addS (pe_op op_addS (pe_op op_addS (pe_op op_addS (pe_ix (ixK K) (pv 0) pe_int (fun _ _ => rfl)) pe_str) (pe_ix (ixK K) (pv 0) pe_int (fun _ _ => rfl))) pe_str) (pe_call (ok__law_bound_text T) (hr.mono (by decide)) (by rfl) T.g__law_bound_text T.F__law_bound_text.kp T.b__law_bound_text .nil pass0 (pa_cons (pe_ix (ixK K) (pv 0) pe_int (fun _ _ => rfl)) pa_nil))) pe_str) (pe_call (ok__law_bound_text T) (hr.mono (by decide)) (by rfl) T.g__law_bound_text T.F__law_bound_text.kp T.b__law_bound_text .nil pass0 (pa_cons (pe_ix (ixK K) (pv 0) pe_int (fun _ _ => rfl)) pa_nil))))), ?_⟩
    rintro ss A k ⟨⟨a, b, lo, hi⟩, rfl, hk⟩
    (try dsimp only [cxK] at hk); (try dsimp only [cxK])
    change Go _ _ _ [_] _
    obtain ⟨ha, hb, hlo, hhi, hk⟩ := hk
    have e1 : (" " : Str).length = 1 := by decide +kernel
    have := ha.hi
    have := hb.hi
    have := bnd_len hlo
    have := bnd_len hhi
    walk_at "go"
    refine rw_addS (by simp only [Str.length_append, e1]; exact sz (by omega)) ?_
    walk_at "go"
    refine rw_addS (by simp only [Str.length_append, e1]; exact sz (by omega)) ?_
    walk_at "go"
    refine rw_addS (by simp only [Str.length_append, e1]; exact sz (by omega)) ?_
    walk_at "go"
    refine ⟨hlo, ?_⟩
    walk_at "go"
    refine rw_addS (by simp only [Str.length_append, e1]; exact sz (by omega)) ?_
    walk_at "go"
    refine rw_addS (by simp only [Str.length_append, e1]; exact sz (by omega)) ?_
    walk_at "go"
    refine ⟨hhi, ?_⟩
    walk_at "go"
    refine rw_addS (by simp only [Str.length_append, e1]; exact sz (by omega)) ?_
    rw [sight_cat]
    exact hk
def W__law_aim_text : List SV → Amb → KA → Prop := fun ss A k => ∃ x : Str × Int, ss = [.dat (.tuple [.str x.1, .int x.2])] ∧ IsName x.1 ∧ x.2.natAbs < BIG ∧ k A (.dat (.str (aimS x.1 x.2)))
theorem ok__law_aim_text (T : Tx w K mg) : FnOk P w K mg base CX0 1 T.f__law_aim_text T.d__law_aim_text ["aim"] (spW K (W__law_aim_text)) := by
  refine fn_go T.F__law_aim_text sc__law_aim_text (fun ss A k h => ?_) (fun cdv A outer s H E hr => ?_)
  · obtain ⟨i, rfl, _⟩ := h; rfl
  · have hu : (A.deeper (PyProof.Rows.envOfC "_law_aim_text" (defScope s__law_aim_text) s.heap.objs.size T.f__law_aim_text cdv)).units + 65 < cLine := by have := hr.un; omega
    have hu1 := hu_of hr
    refine ⟨_, (pss_one (ps_ret (pe_op op_addS (pe_op op_addS (pe_ix (ixK K) (pv 0) pe_int (fun _ _ => rfl)) (pe_ifExp (pt_cmpR op_ge (pe_ix (ixK K) (pv 0) pe_int (fun _ _ => rfl)) pe_int (nomark _)) pe_str pe_str)) (pe_callTy call_strU (by rfl) T.n_str (by decide +kernel) (pa_cons (pe_callB call_absN (by rfl) T.n_abs (by decide +kernel) (pa_cons (pe_ix (ixK K) (pv 0) pe_int (fun _ _ => rfl)) pa_nil)) pa_nil))))), ?_⟩
    rintro ss A k ⟨⟨w, i⟩, rfl, hk⟩
    (try dsimp only [cxK] at hk); (try dsimp only [cxK])
    change Go _ _ _ [_] _
    obtain ⟨hw, hi, hk⟩ := hk
    have h8 := hw.hi
    have e1 : ("+" : Str).length = 1 := by decide +kernel
    have e2 : ("-" : Str).length = 1 := by decide +kernel
    walk_at "go"
    refine ⟨fun h => ?_, fun h => ?_⟩
    · have h : 0 ≤ i := of_decide_eq_true h
      have hl := (dec_len hi).2
      walk_at "go"
      refine rw_addS (by rw [e1]; exact sz (by omega)) ?_
      walk_at "go"
      refine cw_abs ?_
      rw [if_neg (by omega)]
      walk_at "go"
      refine cw_strU (i := i) rfl (log_dec hi) ?_
      refine rw_addS (by rw [Str.length_append, e1]; show w.length + 1 + (decS i).length ≤ _; exact sz (by omega)) ?_
      have e : aimS w i = (w ++ "+") ++ decS i := by unfold aimS; rw [if_pos h]
      rw [e] at hk
      exact hk
    · have h : i < 0 := by have := of_decide_eq_false h; omega
      have hl := (num_len hi).2
      have en : -i = ((i.natAbs : Nat) : Int) := by omega
      walk_at "go"
      refine rw_addS (by rw [e2]; exact sz (by omega)) ?_
      walk_at "go"
      refine cw_abs ?_
      rw [if_pos h, en]
      walk_at "go"
      refine cw_strU (i := ((i.natAbs : Nat) : Int)) rfl (log_dec (by rw [Int.natAbs_natCast]; exact hi)) ?_
      refine rw_addS (by rw [Str.length_append, e2]; show w.length + 1 + (numS i.natAbs).length ≤ _; exact sz (by omega)) ?_
      rw [← aim_sum w h] at hk
      exact hk
def W__law_point_text : List SV → Amb → KA → Prop := fun ss A k => ∃ x : (Str × Int) × (Str × Int), ss = [.dat (.tuple [.tuple [.str x.1.1, .int x.1.2], .tuple [.str x.2.1, .int x.2.2]])] ∧ IsName x.1.1 ∧ IsName x.2.1 ∧ x.1.2.natAbs < BIG ∧ x.2.2.natAbs < BIG ∧ k A (.dat (.str (pointS x.1 x.2)))
theorem ok__law_point_text (T : Tx w K mg) : FnOk P w K mg base CX0 2 T.f__law_point_text T.d__law_point_text ["mark"] (spW K (W__law_point_text)) := by
  refine fn_go T.F__law_point_text sc__law_point_text (fun ss A k h => ?_) (fun cdv A outer s H E hr => ?_)
  · obtain ⟨i, rfl, _⟩ := h; rfl
  · have hu : (A.deeper (PyProof.Rows.envOfC "_law_point_text" (defScope s__law_point_text) s.heap.objs.size T.f__law_point_text cdv)).units + 65 < cLine := by have := hr.un; omega
    have hu1 := hu_of hr
    refine ⟨_, (pss_one (ps_ret (pe_op op_addS (pe_op op_addS (pe_call (ok__law_aim_text T) (hr.mono (by decide)) (by rfl) T.g__law_aim_text T.F__law_aim_text.kp T.b__law_aim_text .nil pass0 (pa_cons (pe_ix (ixK K) (pv 0) pe_int (fun _ _ => rfl)) pa_nil)) pe_str) (pe_call (ok__law_aim_text T) (hr.mono (by decide)) (by rfl) T.g__law_aim_text T.F__law_aim_text.kp T.b__law_aim_text .nil pass0 (pa_cons (pe_ix (ixK K) (pv 0) pe_int (fun _ _ => rfl)) pa_nil))))), ?_⟩
    rintro ss A k ⟨⟨p, q⟩, rfl, hk⟩
    (try dsimp only [cxK] at hk); (try dsimp only [cxK])
    change Go _ _ _ [_] _
    obtain ⟨hp, hq, h1, h2, hk⟩ := hk
    have e1 : (" " : Str).length = 1 := by decide +kernel
    have := aim_len hp h1
    have := aim_len hq h2
    walk_at "go"
    refine ⟨hp, h1, ?_⟩
    walk_at "go"
    refine rw_addS (by rw [e1]; exact sz (by omega)) ?_
    walk_at "go"
    refine ⟨hq, h2, ?_⟩
    walk_at "go"
    refine rw_addS (by rw [Str.length_append, e1]; exact sz (by omega)) ?_
    rw [point_cat]
    exact hk
theorem law_go (T : Tx w K mg) : LawGo P w K mg T.f_law "law" s_law NN_law 5 63 := by
  intro base cdv s H hr
  have hu : (callerA.deeper (PyProof.Rows.envOfC "law" (defScope s_law) s.heap.objs.size T.f_law cdv)).units + 65 < cLine := by have := hr.un; omega
  have hu1 := hu_of hr
  have hg : (callerA.deeper (PyProof.Rows.envOfC "law" (defScope s_law) s.heap.objs.size T.f_law cdv)).guards = some [] := rfl
  refine ⟨_, (pss_cons (ps_set (i := 1) sc_law.nd rfl (Or.inl rfl) (pe_call (ok__law_begin T) (hr.mono (by decide)) (by rfl) T.g__law_begin T.F__law_begin.kp T.b__law_begin .nil pass0 (pa_cons (pv 0) pa_nil)))
      (pss_cons (ps_for PassesOwn.never rfl (pi_range1 (by rfl) T.n_range (pa_cons pe_int pa_nil)) (pg_name (i := 2) sc_law.nd rfl (Or.inl rfl))
        (pss_cons (ps_set (i := 3) sc_law.nd rfl (Or.inl rfl) (pe_call (ok__law_shape T) (hr.mono (by decide)) (by rfl) T.g__law_shape T.F__law_shape.kp T.b__law_shape .nil pass0 (pa_cons (pv 1) (pa_cons pe_int pa_nil))))
          (pss_cons (ps_par (i := 4) (j := 5) rfl sc_law.nd rfl rfl (by decide) rfl rfl (pa_cons (pe_call (ok__law_true T) (hr.mono (by decide)) (by rfl) T.g__law_true T.F__law_true.kp T.b__law_true .nil pass0 (pa_cons (pv 1) (pa_cons (pv 3) pa_nil))) (pa_cons (pe_make T.M_Plan___init__ (ok_Plan___init__ T) (hr.mono (by decide)) (by rfl) T.mg_Plan T.b_Plan___init__ .nil pass0 (pa_cons (pe_ix (ixK K) (pv 3) pe_int (fun _ _ => rfl)) (pa_cons (pe_ix (ixK K) (pv 3) pe_int (fun _ _ => rfl)) pa_nil))) pa_nil)) (by rfl))
          (pss_cons (ps_set (i := 6) sc_law.nd rfl (Or.inl rfl) (pe_op op_addS (pe_op op_addS (pe_op op_addS (pe_op op_addS (pe_op op_addS pe_str (pe_bmK K PySem.F.plainAttrs_str PySem.F.slot_str_join PySem.F.type_str_join (mt_joinK K) pe_str (pa_cons (pe_ix (ixK K) (pv 3) pe_int (fun _ _ => rfl)) pa_nil))) pe_str) pe_str) (pe_bmK K PySem.F.plainAttrs_str PySem.F.slot_str_join PySem.F.type_str_join (mt_joinK K) pe_str (pa_cons (pe_ix (ixK K) (pv 3) pe_int (fun _ _ => rfl)) pa_nil))) pe_str))
          (pss_cons (ps_if (PW.pt (pw_or (pt_cmpR op_ne (pe_call (ok_plan_text T) (hr.mono (by decide)) (by rfl) T.g_plan_text T.F_plan_text.kp T.b_plan_text .nil pass0 (pa_cons (pv 5) pa_nil)) (pv 6) (nomark _)) (pw_or1 (pt_cmpR op_ne (pe_callP0 (ok_plan_text T) (hr.mono (by decide)) (by rfl) T.g_plan_text T.F_plan_text.kp T.kb_plan_text_0_plan pass0 (pk_cons (pv 5) pk_nil)) (pv 6) (nomark _)))))
            (pss_one (ps_ret pe_bl))
            pss_nil)
          (pss_cons (ps_if (PW.pt (pw_or (pt_not (pt_cmpR (op_ownI T.M_Plan___eq__ T.nf_Plan (ok_Plan___eq__ T) (hr.mono (by decide)) T.b_Plan___eq__ pass0) (pe_call (ok_read_plan T) (hr.mono (by decide)) (by rfl) T.g_read_plan T.F_read_plan.kp T.b_read_plan .nil pass0 (pa_cons (pv 6) pa_nil)) (pv 5) (nomark _))) (pw_or (pt_not (pt_cmpR (op_ownI T.M_Plan___eq__ T.nf_Plan (ok_Plan___eq__ T) (hr.mono (by decide)) T.b_Plan___eq__ pass0) (pe_callP0 (ok_read_plan T) (hr.mono (by decide)) (by rfl) T.g_read_plan T.F_read_plan.kp T.kb_read_plan_0_text pass0 (pk_cons (pv 6) pk_nil)) (pv 5) (nomark _))) (pw_or1 (pt_cmpR (op_neK K hu) (pe_meth (pv 5) T.cl_Plan T.M_Plan_lines (ok_Plan_lines T) (hr.mono (by decide)) T.b_Plan_lines .nil pass0 (pa_cons pe_int pa_nil)) (pe_callTy (call_tupK K) (by rfl) T.n_tuple (by decide +kernel) (pa_cons (pe_ix (ixK K) (pv 3) pe_int (fun _ _ => rfl)) pa_nil)) (nomark _))))))
            (pss_one (ps_ret pe_bl))
            pss_nil)
          (pss_cons (ps_set (i := 7) sc_law.nd rfl (Or.inl rfl) (pe_call (ok__law_sight T) (hr.mono (by decide)) (by rfl) T.g__law_sight T.F__law_sight.kp T.b__law_sight .nil pass0 (pa_cons (pv 1) (pa_cons (pv 3) (pa_cons (pv 4) (pa_cons pe_int pa_nil))))))
          (pss_cons (ps_if (pt_cmpR (op_eqK K hu) (pe_call (ok__law_take T) (hr.mono (by decide)) (by rfl) T.g__law_take T.F__law_take.kp T.b__law_take .nil pass0 (pa_cons (pv 1) (pa_cons pe_int pa_nil))) pe_int (nomark _))
            (pss_one (ps_set (i := 7) sc_law.nd rfl (Or.inl rfl) (pe_op (op_catK K) (pe_slice (sl_tupK K) (pv 7) po_none (po_some pe_int)) (pe_tup (pa_cons (pe_call (ok__law_pick T) (hr.mono (by decide)) (by rfl) T.g__law_pick T.F__law_pick.kp T.b__law_pick .nil pass0 (pa_cons (pv 1) (pa_cons (pe_lst (pa_cons pe_non (pa_cons pe_int (pa_cons (pe_un un_neg (pe_op op_pow pe_int pe_int)) (pa_cons (pe_op op_pow pe_int pe_int) pa_nil))))) pa_nil))) (pa_cons (pe_call (ok__law_pick T) (hr.mono (by decide)) (by rfl) T.g__law_pick T.F__law_pick.kp T.b__law_pick .nil pass0 (pa_cons (pv 1) (pa_cons (pe_lst (pa_cons pe_int (pa_cons pe_int (pa_cons (pe_un un_neg pe_int) (pa_cons (pe_op op_pow pe_int pe_int) pa_nil))))) pa_nil))) pa_nil))))))
            pss_nil)
          (pss_cons (ps_set (i := 8) sc_law.nd rfl (Or.inl rfl) (pe_call (ok__law_sight_text T) (hr.mono (by decide)) (by rfl) T.g__law_sight_text T.F__law_sight_text.kp T.b__law_sight_text .nil pass0 (pa_cons (pv 7) pa_nil)))
          (pss_cons (ps_if (pt_cmpR op_ne (pe_callB (cr_reprK K hu hg) (by rfl) T.n_repr (by decide +kernel) (pa_cons (pe_lst (pa_cons (pe_call (ok_sight_text T) (hr.mono (by decide)) (by rfl) T.g_sight_text T.F_sight_text.kp T.b_sight_text .nil pass0 (pa_cons (pv 7) pa_nil)) (pa_cons (pe_callP0 (ok_sight_text T) (hr.mono (by decide)) (by rfl) T.g_sight_text T.F_sight_text.kp T.kb_sight_text_0_sight pass0 (pk_cons (pv 7) pk_nil)) pa_nil))) pa_nil)) (pe_callB (cr_reprK K hu hg) (by rfl) T.n_repr (by decide +kernel) (pa_cons (pe_op op_rep (pe_lst (pa_cons (pv 8) pa_nil)) pe_int) pa_nil)) (nomark _))
            (pss_one (ps_ret pe_bl))
            pss_nil)
          (pss_cons (ps_if (pt_cmpR op_ne (pe_callB (cr_reprK K hu hg) (by rfl) T.n_repr (by decide +kernel) (pa_cons (pe_lst (pa_cons (pe_call (ok_read_sight T) (hr.mono (by decide)) (by rfl) T.g_read_sight T.F_read_sight.kp T.b_read_sight .nil pass0 (pa_cons (pv 8) pa_nil)) (pa_cons (pe_callP0 (ok_read_sight T) (hr.mono (by decide)) (by rfl) T.g_read_sight T.F_read_sight.kp T.kb_read_sight_0_text pass0 (pk_cons (pv 8) pk_nil)) pa_nil))) pa_nil)) (pe_callB (cr_reprK K hu hg) (by rfl) T.n_repr (by decide +kernel) (pa_cons (pe_op op_rep (pe_lst (pa_cons (pv 7) pa_nil)) pe_int) pa_nil)) (nomark _))
            (pss_one (ps_ret pe_bl))
            pss_nil)
          (pss_cons (ps_set (i := 9) sc_law.nd rfl (Or.inl rfl) (pe_call (ok__law_point T) (hr.mono (by decide)) (by rfl) T.g__law_point T.F__law_point.kp T.b__law_point .nil pass0 (pa_cons (pv 1) (pa_cons (pv 3) (pa_cons (pv 4) pa_nil)))))
          (pss_cons (ps_set (i := 8) sc_law.nd rfl (Or.inl rfl) (pe_call (ok__law_point_text T) (hr.mono (by decide)) (by rfl) T.g__law_point_text T.F__law_point_text.kp T.b__law_point_text .nil pass0 (pa_cons (pv 9) pa_nil)))
          (pss_cons (ps_if (pt_cmpR op_ne (pe_callB (cr_reprK K hu hg) (by rfl) T.n_repr (by decide +kernel) (pa_cons (pe_lst (pa_cons (pe_call (ok_point_text T) (hr.mono (by decide)) (by rfl) T.g_point_text T.F_point_text.kp T.b_point_text .nil pass0 (pa_cons (pv 9) pa_nil)) (pa_cons (pe_callP0 (ok_point_text T) (hr.mono (by decide)) (by rfl) T.g_point_text T.F_point_text.kp T.kb_point_text_0_point pass0 (pk_cons (pv 9) pk_nil)) pa_nil))) pa_nil)) (pe_callB (cr_reprK K hu hg) (by rfl) T.n_repr (by decide +kernel) (pa_cons (pe_op op_rep (pe_lst (pa_cons (pv 8) pa_nil)) pe_int) pa_nil)) (nomark _))
            (pss_one (ps_ret pe_bl))
            pss_nil)
          (pss_one (ps_if (pt_cmpR op_ne (pe_callB (cr_reprK K hu hg) (by rfl) T.n_repr (by decide +kernel) (pa_cons (pe_lst (pa_cons (pe_call (ok_read_point T) (hr.mono (by decide)) (by rfl) T.g_read_point T.F_read_point.kp T.b_read_point .nil pass0 (pa_cons (pv 8) pa_nil)) (pa_cons (pe_callP0 (ok_read_point T) (hr.mono (by decide)) (by rfl) T.g_read_point T.F_read_point.kp T.kb_read_point_0_text pass0 (pk_cons (pv 8) pk_nil)) pa_nil))) pa_nil)) (pe_callB (cr_reprK K hu hg) (by rfl) T.n_repr (by decide +kernel) (pa_cons (pe_op op_rep (pe_lst (pa_cons (pv 9) pa_nil)) pe_int) pa_nil)) (nomark _))
            (pss_one (ps_ret pe_bl))
            pss_nil))))))))))))))))
      (pss_one (ps_ret pe_bl)))), ?_⟩
  intro ns hns hbits
  try dsimp only [cxK]
  change Go _ _ _ [_, SV.no, SV.no, SV.no, SV.no, SV.no, SV.no, SV.no, SV.no, SV.no] _
  walk_at "wp"
  refine ⟨hns, fun p q ms hok => ?_⟩
  walk_at "wp1"
  refine go_seal (ps := [p, q]) (C := drawOk q) (cs := [.lst (drawL q 0 1), .lst ms]) (l := []) hok rfl ?_
  have hI : ∀ l, isDraw K ⟨Blk.of K [p, q] (drawOk q), l⟩ p := fun l => ⟨q, rfl⟩
  generalize Blk.of K [p, q] (drawOk q) = I at hI
  walk_at "wp"
  refine go_forR (n := 6) ?_
  refine iw_rng1 ?_
  walk_at "wp"
  refine ⟨by decide, by decide, rfl, fun i A1 S1 => ∃ l x2 x3 x4 x5 x6 x7 x8 x9, A1 = ⟨I, l⟩ ∧ S1 = [.scr ns, .ptr p, x2, x3, x4, x5, x6, x7, x8, x9], ⟨_, _, _, _, _, _, _, _, _, rfl, rfl⟩, ?_, ?_⟩
  · rintro i A1 S1 hi ⟨l, x2, x3, x4, x5, x6, x7, x8, x9, rfl, rfl⟩
    walk_at "wp"
    refine ⟨(p, 8), rfl, hI _, by simp, by simp, fun a b hS => ?_⟩
    have hS : Shape a b := hS
    walk_at "wp"
    refine ⟨(p, a, b), rfl, hI _, hS, fun t g ra rb => ?_⟩
    have ra : Rise g a := ra
    have rb : Rise g b := rb
    walk_at "wp"
    refine wp_make ?_
    walk_at "wp"
    refine fun x dx => ⟨(x, dx, a, b), rfl, hS, _, _, rfl, rfl, ?_⟩
    walk_at "wp"
    change Wp _ ⟨I, (x, .ins T.C_Plan dx (planF a b)) :: (t, .dk ((a ++ b).map fun w => (.inr w, .dat (.int (g w))))) :: l⟩ _ _ _
    generalize hl : (x, Cell.ins T.C_Plan dx (planF a b)) :: (t, Cell.dk ((a ++ b).map fun w => (.inr w, .dat (.int (g w))))) :: l = l1
    have hx : (x, Cell.ins T.C_Plan dx (planF a b)) ∈ l1 := by rw [← hl]; exact List.mem_cons_self
    have ht : (t, Cell.dk ((a ++ b).map fun w => (.inr w, .dat (.int (g w))))) ∈ l1 := by rw [← hl]; exact List.mem_cons_of_mem _ List.mem_cons_self
    clear hl
    have na : ∀ w ∈ a, IsName w := fun w h => hS.nm w (List.mem_append_left _ h)
    have nb : ∀ w ∈ b, IsName w := fun w h => hS.nm w (List.mem_append_right _ h)
    obtain ⟨la, ja⟩ := names_len na hS.a8
    obtain ⟨lb, jb⟩ := names_len nb hS.b8
    have a0 : a ≠ [] := by intro z; have := hS.a2; rw [z] at this; simp at this
    have b0 : b ≠ [] := by intro z; have := hS.b2; rw [z] at this; simp at this
    have q1 : ("uprights " : Str).length = 9 := by decide +kernel
    have q2 : ("levels " : Str).length = 7 := by decide +kernel
    have q3 : ("\n" : Str).length = 1 := by decide +kernel
    refine wp_join1 ?_
    walk_at "wp"
    refine ⟨Nat.le_trans la (by decide), ?_⟩
    refine rw_addS (by rw [q1]; exact sz (by omega)) ?_
    walk_at "wp"
    refine rw_addS (by rw [Str.length_append, q1, q3]; exact sz (by omega)) ?_
    walk_at "wp"
    refine rw_addS (by rw [Str.length_append, Str.length_append, q1, q2, q3]; exact sz (by omega)) ?_
    walk_at "wp"
    refine wp_join1 ?_
    walk_at "wp"
    refine ⟨Nat.le_trans lb (by decide), ?_⟩
    refine rw_addS (by rw [Str.length_append, Str.length_append, Str.length_append, q1, q2, q3]; exact sz (by omega)) ?_
    walk_at "wp"
    refine rw_addS (by rw [Str.length_append, Str.length_append, Str.length_append, Str.length_append, q1, q2, q3]; exact sz (by omega)) ?_
    rw [due_cat a b a0 b0]
    generalize hdue : planS a b = due
    walk_at "go"
    refine ⟨(x, a, b), rfl, ⟨dx, hx⟩, hS, ?_⟩
    dsimp only
    rw [hdue]
    walk_at "go"
    refine ⟨rfl, rfl, (x, a, b), rfl, ⟨dx, hx⟩, hS, ?_⟩
    dsimp only
    rw [hdue]
    walk_at "go"
    refine ⟨(due, a, b), rfl, hdue, hS, fun p1 d1 => ?_⟩
    walk_at "go"
    refine rw_ownI (A := ⟨I, (p1, .ins T.C_Plan d1 (planF a b)) :: l1⟩) (fs := planF a b) (gs := planF a b) (dx := d1) (dy := dx) List.mem_cons_self (List.mem_cons_of_mem _ hx) ?_
    refine ⟨(p1, x, a, b), rfl, ⟨d1, List.mem_cons_self⟩, ⟨dx, List.mem_cons_of_mem _ hx⟩, hS.nm, ?_⟩
    walk_at "go"
    refine ⟨rfl, rfl, (due, a, b), rfl, hdue, hS, fun p2 d2 => ?_⟩
    walk_at "go"
    refine rw_ownI (A := ⟨I, (p2, .ins T.C_Plan d2 (planF a b)) :: (p1, .ins T.C_Plan d1 (planF a b)) :: l1⟩) (fs := planF a b) (gs := planF a b) (dx := d2) (dy := dx) List.mem_cons_self (List.mem_cons_of_mem _ (List.mem_cons_of_mem _ hx)) ?_
    refine ⟨(p2, x, a, b), rfl, ⟨d2, List.mem_cons_self⟩, ⟨dx, List.mem_cons_of_mem _ (List.mem_cons_of_mem _ hx)⟩, hS.nm, ?_⟩
    walk_at "go"
    change Wp _ ⟨I, (p2, _) :: (p1, _) :: l1⟩ _ _ _
    have hx : (x, Cell.ins T.C_Plan dx (planF a b)) ∈ (p2, Cell.ins T.C_Plan d2 (planF a b)) :: (p1, Cell.ins T.C_Plan d1 (planF a b)) :: l1 := List.mem_cons_of_mem _ (List.mem_cons_of_mem _ hx)
    have ht : (t, Cell.dk ((a ++ b).map fun w => (.inr w, .dat (.int (g w))))) ∈ (p2, Cell.ins T.C_Plan d2 (planF a b)) :: (p1, Cell.ins T.C_Plan d1 (planF a b)) :: l1 := List.mem_cons_of_mem _ (List.mem_cons_of_mem _ ht)
    generalize (p2, Cell.ins T.C_Plan d2 (planF a b)) :: (p1, Cell.ins T.C_Plan d1 (planF a b)) :: l1 = l2 at hx ht
    refine wp_meth ?_
    walk_at "go"
    refine ⟨x, dx, _, rfl, hx, rfl, ?_⟩
    walk_at "go"
    refine ⟨(x, a, b, 0), rfl, ⟨dx, hx⟩, a, rfl, ?_⟩
    walk_at "go"
    refine cw_tupD (.inl rfl) ?_
    refine rw_neD (strs_shaped fun w h => (na w h).ok) (strs_shaped fun w h => (na w h).ok) ?_
    rw [strs_same a fun w h => (na w h).ok]
    walk_at "go"
    refine ⟨(p, t, a, b, g, 2), rfl, hI _, hS, ra, rb, ht, by simp, by simp, fun w1 w2 lo hi hsg => ?_⟩
    have nn : IsName w1 ∧ IsName w2 := by
      rcases hsg.fam with ⟨h1, h2⟩ | ⟨h1, h2⟩
      · exact ⟨na _ h1, na _ h2⟩
      · exact ⟨nb _ h1, nb _ h2⟩
    obtain ⟨n1, n2⟩ := nn
    have slo := sighted_small hsg.lob
    have shi := sighted_small hsg.hib
    clear hsg
    walk_at "goe"
    refine go_seq ?_
    refine go_cut (fun A2 S2 => A2 = ⟨I, l2⟩ ∧ ∃ lo hi, smallO lo ∧ smallO hi ∧ S2 = [.scr ns, .ptr p, .dat (.int i), .dat (shapeD a b), .ptr t, .ptr x, .dat (.str due), .dat (.tuple [.str w1, .str w2, bndD lo, bndD hi]), x8, x9]) ?_ ?_
    · walk_at "go"
      refine ⟨(p, 4), rfl, hI _, by simp, by simp, fun r r0 r1 => ?_⟩
      walk_at "go"
      refine ⟨fun _ => ?_, fun _ => ?_⟩
      rotate_left
      · walk_at "go"
        exact ⟨rfl, lo, hi, slo, shi, rfl⟩
      walk_at "go"
      refine ⟨(p, _, _), rfl, hI _, .inl rfl, by simp, by simp, fun d hd => ?_⟩
      obtain ⟨o1, rfl, s1⟩ : ∃ o, d = bndD o ∧ smallO o := by
        simp only [List.mem_cons, List.not_mem_nil, or_false] at hd
        rcases hd with rfl | rfl | rfl | rfl
        · exact ⟨none, rfl, fun i h => by cases h⟩
        · exact ⟨some 0, rfl, fun i h => by cases h; decide⟩
        · exact ⟨some _, rfl, fun i h => by cases h; decide⟩
        · exact ⟨some _, rfl, fun i h => by cases h; decide⟩
      clear hd
      walk_at "go"
      refine ⟨(p, _, _), rfl, hI _, .inl rfl, by simp, by simp, fun d hd => ?_⟩
      obtain ⟨o2, rfl, s2⟩ : ∃ o, d = bndD o ∧ smallO o := by
        simp only [List.mem_cons, List.not_mem_nil, or_false] at hd
        rcases hd with rfl | rfl | rfl | rfl
        · exact ⟨some 0, rfl, fun i h => by cases h; decide⟩
        · exact ⟨some 1, rfl, fun i h => by cases h; decide⟩
        · exact ⟨some _, rfl, fun i h => by cases h; decide⟩
        · exact ⟨some _, rfl, fun i h => by cases h; decide⟩
      clear hd
      walk_at "go"
      refine rw_catT (sz (show 2 + 2 ≤ 100000 by decide)) ?_
      walk_at "go"
      exact ⟨rfl, o1, o2, s1, s2, rfl⟩
    clear slo shi
    rintro A2 S2 ⟨rfl, lo, hi, slo, shi, rfl⟩
    have hsl := sight_len n1 n2 slo shi
    have hso := okx_sight (lo := lo) (hi := hi) n1 n2
    generalize hz : sightS w1 w2 lo hi = z at hsl hso
    walk_at "go"
    refine ⟨(w1, w2, lo, hi), rfl, n1, n2, slo, shi, ?_⟩
    dsimp only
    rw [hz]
    walk_at "go"
    refine ⟨(w1, w2, lo, hi), rfl, n1, n2, slo, shi, ?_⟩
    dsimp only
    rw [hz]
    walk_at "go"
    refine ⟨rfl, rfl, (w1, w2, lo, hi), rfl, n1, n2, slo, shi, ?_⟩
    dsimp only
    rw [hz]
    walk_at "go"
    refine cw_repr2 (Rp.str hso (by omega)) ?_
    walk_at "go"
    refine rw_rep2 ?_
    walk_at "go"
    refine cw_repr2 (Rp.str hso (by omega)) ?_
    walk_at "wp"
    refine ⟨fun e => absurd e (by simp), fun _ => ?_⟩
    walk_at "go"
    refine ⟨(z, w1, w2, lo, hi), rfl, hz, n1, n2, slo, shi, ?_⟩
    walk_at "go"
    refine ⟨rfl, rfl, (z, w1, w2, lo, hi), rfl, hz, n1, n2, slo, shi, ?_⟩
    walk_at "go"
    refine cw_repr2 (rp_sight n1 n2 slo shi) ?_
    walk_at "go"
    refine rw_rep2 ?_
    walk_at "go"
    refine cw_repr2 (rp_sight n1 n2 slo shi) ?_
    walk_at "wp"
    refine ⟨fun e => absurd e (by simp), fun _ => ?_⟩
    walk_at "go"
    refine ⟨(p, t, a, b, g), rfl, hI _, hS, ra, rb, ht, fun c1 c2 h1 h2 => ?_⟩
    have m1 : IsName c1.1 := na _ h1.mem
    have m2 : IsName c2.1 := nb _ h2.mem
    have k1 : c1.2.natAbs < BIG := by
      have := h1.lo
      have := h1.hi
      show c1.2.natAbs < 1000000000000000000000000000000
      omega
    have k2 : c2.2.natAbs < BIG := by
      have := h2.lo
      have := h2.hi
      show c2.2.natAbs < 1000000000000000000000000000000
      omega
    clear h1 h2
    have hpl := point_len m1 m2 k1 k2
    have hpo := okx_point m1 m2
    generalize hy : pointS c1 c2 = y at hpl hpo
    walk_at "go"
    refine ⟨(c1, c2), rfl, m1, m2, k1, k2, ?_⟩
    dsimp only
    rw [hy]
    walk_at "go"
    refine ⟨(c1, c2), rfl, m1, m2, k1, k2, ?_⟩
    dsimp only
    rw [hy]
    walk_at "go"
    refine ⟨rfl, rfl, (c1, c2), rfl, m1, m2, k1, k2, ?_⟩
    dsimp only
    rw [hy]
    walk_at "go"
    refine cw_repr2 (Rp.str hpo (by omega)) ?_
    walk_at "go"
    refine rw_rep2 ?_
    walk_at "go"
    refine cw_repr2 (Rp.str hpo (by omega)) ?_
    walk_at "wp"
    refine ⟨fun e => absurd e (by simp), fun _ => ?_⟩
    walk_at "go"
    refine ⟨(y, c1, c2), rfl, hy, m1, m2, k1, k2, ?_⟩
    walk_at "go"
    refine ⟨rfl, rfl, (y, c1, c2), rfl, hy, m1, m2, k1, k2, ?_⟩
    walk_at "go"
    refine cw_repr2 (rp_point m1 m2 k1 k2) ?_
    walk_at "go"
    refine rw_rep2 ?_
    walk_at "go"
    refine cw_repr2 (rp_point m1 m2 k1 k2) ?_
    walk_at "wp"
    refine ⟨fun e => absurd e (by simp), fun _ => ?_⟩
    walk_at "go"
    exact ⟨_, _, _, _, _, _, _, _, _, rfl, rfl⟩
  · rintro A1 S1 ⟨l, x2, x3, x4, x5, x6, x7, x8, x9, rfl, rfl⟩
    walk_at "wp"
    rfl
end
theorem all_mk {l : PySem.W.OpenLaw} {w : World} {K : PySem.W.Frag} {h : Heap} {mg : Str → Option Value} {fa f_Plan___eq__ f_is_name f_are_lines f_Plan___init__ f_Plan_lines f_bound_text f_sight_text f_number_by f_whole_by f_is_bound_word f_read_sight f_aim_text f_point_text f_aim_by f_read_point f_plan_text f_names_by f_read_plan f__law_begin f__law_take f__law_pick f__law_names f__law_shape f__law_true f__law_sight f__law_point f__law_bound_text f__law_sight_text f__law_aim_text f__law_point_text f_law : Addr} (X : K.In h) (G : h.Ns mainGlobals mg) (hfa : mg "law" = some (.ref fa))
    {C_Plan : Addr} (p_Plan : PySem.W.nsIn K mainGlobals "Plan" = some (some (.ref C_Plan))) (pg_Plan : PySem.W.plainGet K C_Plan Str.empty = true) (hd_Plan : PySem.W.hasDictIn K C_Plan = true) (po_Plan : PySem.W.plainOver K C_Plan = true) (sa_Plan : PySem.W.findIn K (.ref C_Plan) "__setattr__" = some (some (.builtin "object.__setattr__"))) (mk_Plan : PySem.W.makesIn K C_Plan = true) (kc_Plan : PySem.W.keepIn K (.ref C_Plan) = true)
    (na_Plan_families : PySem.W.findIn K (.ref C_Plan) "families" = some none)
    (nf_Plan : PySem.W.notFirst K C_Plan (.ref C_Plan) = true) (i1_Plan : PySem.W.findIn K (.ref C_Plan) "__class__" = some (some (.builtin "object.__class__"))) (i2_Plan : PySem.W.specialIn K (.builtin "object.__class__") "__get__" = some (some (.builtin "getset_descriptor.__get__"))) (i3_Plan : PySem.W.takesIn K (.builtin "object.__class__") = some true) (i4_Plan : PySem.W.mroIn K C_Plan (.type "object") = some true)
    {od_Plan___eq__ an_Plan___eq__ : Option Addr} {sl_Plan___eq__ : Array (Option Value)} {oc_Plan___eq__ kV_Plan___eq__ dc_Plan___eq__ pm_Plan___eq__ cd_Plan___eq__ ct_Plan___eq__ : Value}
    (a_Plan___eq__ : PySem.W.findIn K (.ref C_Plan) "__eq__" = some (some (.ref f_Plan___eq__))) (i_Plan___eq__ : PySem.W.isFn K (.ref f_Plan___eq__) = true) (l_Plan___eq__ : K.lookup f_Plan___eq__ = some ⟨oc_Plan___eq__, od_Plan___eq__, .func (PySem.W.fnOf "__eq__" "Plan.__eq__" (defArgs s_Plan___eq__) (defBody s_Plan___eq__) (defScope s_Plan___eq__) .none kV_Plan___eq__ dc_Plan___eq__ pm_Plan___eq__ an_Plan___eq__ cd_Plan___eq__ ct_Plan___eq__), sl_Plan___eq__⟩) (c_Plan___eq__ : PySem.W.codeIn K cd_Plan___eq__ "Plan.__eq__" = true) (k_Plan___eq__ : PySem.W.keepIn K (.ref f_Plan___eq__) = true)
    {od_is_name an_is_name : Option Addr} {sl_is_name : Array (Option Value)} {oc_is_name kV_is_name dc_is_name pm_is_name cd_is_name ct_is_name : Value}
    (a_is_name : PySem.W.nsIn K mainGlobals "is_name" = some (some (.ref f_is_name))) (l_is_name : K.lookup f_is_name = some ⟨oc_is_name, od_is_name, .func (PySem.W.fnOf "is_name" "is_name" (defArgs s_is_name) (defBody s_is_name) (defScope s_is_name) .none kV_is_name dc_is_name pm_is_name an_is_name cd_is_name ct_is_name), sl_is_name⟩) (c_is_name : PySem.W.codeIn K cd_is_name "is_name" = true) (k_is_name : PySem.W.keepIn K (.ref f_is_name) = true)
    {od_are_lines an_are_lines : Option Addr} {sl_are_lines : Array (Option Value)} {oc_are_lines kV_are_lines dc_are_lines pm_are_lines cd_are_lines ct_are_lines : Value}
    (a_are_lines : PySem.W.nsIn K mainGlobals "are_lines" = some (some (.ref f_are_lines))) (l_are_lines : K.lookup f_are_lines = some ⟨oc_are_lines, od_are_lines, .func (PySem.W.fnOf "are_lines" "are_lines" (defArgs s_are_lines) (defBody s_are_lines) (defScope s_are_lines) .none kV_are_lines dc_are_lines pm_are_lines an_are_lines cd_are_lines ct_are_lines), sl_are_lines⟩) (c_are_lines : PySem.W.codeIn K cd_are_lines "are_lines" = true) (k_are_lines : PySem.W.keepIn K (.ref f_are_lines) = true)
    {od_Plan___init__ an_Plan___init__ : Option Addr} {sl_Plan___init__ : Array (Option Value)} {oc_Plan___init__ kV_Plan___init__ dc_Plan___init__ pm_Plan___init__ cd_Plan___init__ ct_Plan___init__ : Value}
    (a_Plan___init__ : PySem.W.findIn K (.ref C_Plan) "__init__" = some (some (.ref f_Plan___init__))) (i_Plan___init__ : PySem.W.isFn K (.ref f_Plan___init__) = true) (l_Plan___init__ : K.lookup f_Plan___init__ = some ⟨oc_Plan___init__, od_Plan___init__, .func (PySem.W.fnOf "__init__" "Plan.__init__" (defArgs s_Plan___init__) (defBody s_Plan___init__) (defScope s_Plan___init__) .none kV_Plan___init__ dc_Plan___init__ pm_Plan___init__ an_Plan___init__ cd_Plan___init__ ct_Plan___init__), sl_Plan___init__⟩) (c_Plan___init__ : PySem.W.codeIn K cd_Plan___init__ "Plan.__init__" = true) (k_Plan___init__ : PySem.W.keepIn K (.ref f_Plan___init__) = true)
    {od_Plan_lines an_Plan_lines : Option Addr} {sl_Plan_lines : Array (Option Value)} {oc_Plan_lines kV_Plan_lines dc_Plan_lines pm_Plan_lines cd_Plan_lines ct_Plan_lines : Value}
    (a_Plan_lines : PySem.W.findIn K (.ref C_Plan) "lines" = some (some (.ref f_Plan_lines))) (i_Plan_lines : PySem.W.isFn K (.ref f_Plan_lines) = true) (l_Plan_lines : K.lookup f_Plan_lines = some ⟨oc_Plan_lines, od_Plan_lines, .func (PySem.W.fnOf "lines" "Plan.lines" (defArgs s_Plan_lines) (defBody s_Plan_lines) (defScope s_Plan_lines) .none kV_Plan_lines dc_Plan_lines pm_Plan_lines an_Plan_lines cd_Plan_lines ct_Plan_lines), sl_Plan_lines⟩) (c_Plan_lines : PySem.W.codeIn K cd_Plan_lines "Plan.lines" = true) (k_Plan_lines : PySem.W.keepIn K (.ref f_Plan_lines) = true)
    {od_bound_text an_bound_text : Option Addr} {sl_bound_text : Array (Option Value)} {oc_bound_text kV_bound_text dc_bound_text pm_bound_text cd_bound_text ct_bound_text : Value}
    (a_bound_text : PySem.W.nsIn K mainGlobals "bound_text" = some (some (.ref f_bound_text))) (l_bound_text : K.lookup f_bound_text = some ⟨oc_bound_text, od_bound_text, .func (PySem.W.fnOf "bound_text" "bound_text" (defArgs s_bound_text) (defBody s_bound_text) (defScope s_bound_text) .none kV_bound_text dc_bound_text pm_bound_text an_bound_text cd_bound_text ct_bound_text), sl_bound_text⟩) (c_bound_text : PySem.W.codeIn K cd_bound_text "bound_text" = true) (k_bound_text : PySem.W.keepIn K (.ref f_bound_text) = true)
    {od_sight_text an_sight_text : Option Addr} {sl_sight_text : Array (Option Value)} {oc_sight_text kV_sight_text dc_sight_text pm_sight_text cd_sight_text ct_sight_text : Value}
    (a_sight_text : PySem.W.nsIn K mainGlobals "sight_text" = some (some (.ref f_sight_text))) (l_sight_text : K.lookup f_sight_text = some ⟨oc_sight_text, od_sight_text, .func (PySem.W.fnOf "sight_text" "sight_text" (defArgs s_sight_text) (defBody s_sight_text) (defScope s_sight_text) .none kV_sight_text dc_sight_text pm_sight_text an_sight_text cd_sight_text ct_sight_text), sl_sight_text⟩) (c_sight_text : PySem.W.codeIn K cd_sight_text "sight_text" = true) (k_sight_text : PySem.W.keepIn K (.ref f_sight_text) = true)
    {od_number_by an_number_by : Option Addr} {sl_number_by : Array (Option Value)} {oc_number_by kV_number_by dc_number_by pm_number_by cd_number_by ct_number_by : Value}
    (a_number_by : PySem.W.nsIn K mainGlobals "number_by" = some (some (.ref f_number_by))) (l_number_by : K.lookup f_number_by = some ⟨oc_number_by, od_number_by, .func (PySem.W.fnOf "number_by" "number_by" (defArgs s_number_by) (defBody s_number_by) (defScope s_number_by) .none kV_number_by dc_number_by pm_number_by an_number_by cd_number_by ct_number_by), sl_number_by⟩) (c_number_by : PySem.W.codeIn K cd_number_by "number_by" = true) (k_number_by : PySem.W.keepIn K (.ref f_number_by) = true)
    {od_whole_by an_whole_by : Option Addr} {sl_whole_by : Array (Option Value)} {oc_whole_by kV_whole_by dc_whole_by pm_whole_by cd_whole_by ct_whole_by : Value}
    (a_whole_by : PySem.W.nsIn K mainGlobals "whole_by" = some (some (.ref f_whole_by))) (l_whole_by : K.lookup f_whole_by = some ⟨oc_whole_by, od_whole_by, .func (PySem.W.fnOf "whole_by" "whole_by" (defArgs s_whole_by) (defBody s_whole_by) (defScope s_whole_by) .none kV_whole_by dc_whole_by pm_whole_by an_whole_by cd_whole_by ct_whole_by), sl_whole_by⟩) (c_whole_by : PySem.W.codeIn K cd_whole_by "whole_by" = true) (k_whole_by : PySem.W.keepIn K (.ref f_whole_by) = true)
    {od_is_bound_word an_is_bound_word : Option Addr} {sl_is_bound_word : Array (Option Value)} {oc_is_bound_word kV_is_bound_word dc_is_bound_word pm_is_bound_word cd_is_bound_word ct_is_bound_word : Value}
    (a_is_bound_word : PySem.W.nsIn K mainGlobals "is_bound_word" = some (some (.ref f_is_bound_word))) (l_is_bound_word : K.lookup f_is_bound_word = some ⟨oc_is_bound_word, od_is_bound_word, .func (PySem.W.fnOf "is_bound_word" "is_bound_word" (defArgs s_is_bound_word) (defBody s_is_bound_word) (defScope s_is_bound_word) .none kV_is_bound_word dc_is_bound_word pm_is_bound_word an_is_bound_word cd_is_bound_word ct_is_bound_word), sl_is_bound_word⟩) (c_is_bound_word : PySem.W.codeIn K cd_is_bound_word "is_bound_word" = true) (k_is_bound_word : PySem.W.keepIn K (.ref f_is_bound_word) = true)
    {od_read_sight an_read_sight : Option Addr} {sl_read_sight : Array (Option Value)} {oc_read_sight kV_read_sight dc_read_sight pm_read_sight cd_read_sight ct_read_sight : Value}
    (a_read_sight : PySem.W.nsIn K mainGlobals "read_sight" = some (some (.ref f_read_sight))) (l_read_sight : K.lookup f_read_sight = some ⟨oc_read_sight, od_read_sight, .func (PySem.W.fnOf "read_sight" "read_sight" (defArgs s_read_sight) (defBody s_read_sight) (defScope s_read_sight) .none kV_read_sight dc_read_sight pm_read_sight an_read_sight cd_read_sight ct_read_sight), sl_read_sight⟩) (c_read_sight : PySem.W.codeIn K cd_read_sight "read_sight" = true) (k_read_sight : PySem.W.keepIn K (.ref f_read_sight) = true)
    {od_aim_text an_aim_text : Option Addr} {sl_aim_text : Array (Option Value)} {oc_aim_text kV_aim_text dc_aim_text pm_aim_text cd_aim_text ct_aim_text : Value}
    (a_aim_text : PySem.W.nsIn K mainGlobals "aim_text" = some (some (.ref f_aim_text))) (l_aim_text : K.lookup f_aim_text = some ⟨oc_aim_text, od_aim_text, .func (PySem.W.fnOf "aim_text" "aim_text" (defArgs s_aim_text) (defBody s_aim_text) (defScope s_aim_text) .none kV_aim_text dc_aim_text pm_aim_text an_aim_text cd_aim_text ct_aim_text), sl_aim_text⟩) (c_aim_text : PySem.W.codeIn K cd_aim_text "aim_text" = true) (k_aim_text : PySem.W.keepIn K (.ref f_aim_text) = true)
    {od_point_text an_point_text : Option Addr} {sl_point_text : Array (Option Value)} {oc_point_text kV_point_text dc_point_text pm_point_text cd_point_text ct_point_text : Value}
    (a_point_text : PySem.W.nsIn K mainGlobals "point_text" = some (some (.ref f_point_text))) (l_point_text : K.lookup f_point_text = some ⟨oc_point_text, od_point_text, .func (PySem.W.fnOf "point_text" "point_text" (defArgs s_point_text) (defBody s_point_text) (defScope s_point_text) .none kV_point_text dc_point_text pm_point_text an_point_text cd_point_text ct_point_text), sl_point_text⟩) (c_point_text : PySem.W.codeIn K cd_point_text "point_text" = true) (k_point_text : PySem.W.keepIn K (.ref f_point_text) = true)
    {od_aim_by an_aim_by : Option Addr} {sl_aim_by : Array (Option Value)} {oc_aim_by kV_aim_by dc_aim_by pm_aim_by cd_aim_by ct_aim_by : Value}
    (a_aim_by : PySem.W.nsIn K mainGlobals "aim_by" = some (some (.ref f_aim_by))) (l_aim_by : K.lookup f_aim_by = some ⟨oc_aim_by, od_aim_by, .func (PySem.W.fnOf "aim_by" "aim_by" (defArgs s_aim_by) (defBody s_aim_by) (defScope s_aim_by) .none kV_aim_by dc_aim_by pm_aim_by an_aim_by cd_aim_by ct_aim_by), sl_aim_by⟩) (c_aim_by : PySem.W.codeIn K cd_aim_by "aim_by" = true) (k_aim_by : PySem.W.keepIn K (.ref f_aim_by) = true)
    {od_read_point an_read_point : Option Addr} {sl_read_point : Array (Option Value)} {oc_read_point kV_read_point dc_read_point pm_read_point cd_read_point ct_read_point : Value}
    (a_read_point : PySem.W.nsIn K mainGlobals "read_point" = some (some (.ref f_read_point))) (l_read_point : K.lookup f_read_point = some ⟨oc_read_point, od_read_point, .func (PySem.W.fnOf "read_point" "read_point" (defArgs s_read_point) (defBody s_read_point) (defScope s_read_point) .none kV_read_point dc_read_point pm_read_point an_read_point cd_read_point ct_read_point), sl_read_point⟩) (c_read_point : PySem.W.codeIn K cd_read_point "read_point" = true) (k_read_point : PySem.W.keepIn K (.ref f_read_point) = true)
    {od_plan_text an_plan_text : Option Addr} {sl_plan_text : Array (Option Value)} {oc_plan_text kV_plan_text dc_plan_text pm_plan_text cd_plan_text ct_plan_text : Value}
    (a_plan_text : PySem.W.nsIn K mainGlobals "plan_text" = some (some (.ref f_plan_text))) (l_plan_text : K.lookup f_plan_text = some ⟨oc_plan_text, od_plan_text, .func (PySem.W.fnOf "plan_text" "plan_text" (defArgs s_plan_text) (defBody s_plan_text) (defScope s_plan_text) .none kV_plan_text dc_plan_text pm_plan_text an_plan_text cd_plan_text ct_plan_text), sl_plan_text⟩) (c_plan_text : PySem.W.codeIn K cd_plan_text "plan_text" = true) (k_plan_text : PySem.W.keepIn K (.ref f_plan_text) = true)
    {od_names_by an_names_by : Option Addr} {sl_names_by : Array (Option Value)} {oc_names_by kV_names_by dc_names_by pm_names_by cd_names_by ct_names_by : Value}
    (a_names_by : PySem.W.nsIn K mainGlobals "names_by" = some (some (.ref f_names_by))) (l_names_by : K.lookup f_names_by = some ⟨oc_names_by, od_names_by, .func (PySem.W.fnOf "names_by" "names_by" (defArgs s_names_by) (defBody s_names_by) (defScope s_names_by) .none kV_names_by dc_names_by pm_names_by an_names_by cd_names_by ct_names_by), sl_names_by⟩) (c_names_by : PySem.W.codeIn K cd_names_by "names_by" = true) (k_names_by : PySem.W.keepIn K (.ref f_names_by) = true)
    {od_read_plan an_read_plan : Option Addr} {sl_read_plan : Array (Option Value)} {oc_read_plan kV_read_plan dc_read_plan pm_read_plan cd_read_plan ct_read_plan : Value}
    (a_read_plan : PySem.W.nsIn K mainGlobals "read_plan" = some (some (.ref f_read_plan))) (l_read_plan : K.lookup f_read_plan = some ⟨oc_read_plan, od_read_plan, .func (PySem.W.fnOf "read_plan" "read_plan" (defArgs s_read_plan) (defBody s_read_plan) (defScope s_read_plan) .none kV_read_plan dc_read_plan pm_read_plan an_read_plan cd_read_plan ct_read_plan), sl_read_plan⟩) (c_read_plan : PySem.W.codeIn K cd_read_plan "read_plan" = true) (k_read_plan : PySem.W.keepIn K (.ref f_read_plan) = true)
    {od__law_begin an__law_begin : Option Addr} {sl__law_begin : Array (Option Value)} {oc__law_begin kV__law_begin dc__law_begin pm__law_begin cd__law_begin ct__law_begin : Value}
    (a__law_begin : PySem.W.nsIn K mainGlobals "_law_begin" = some (some (.ref f__law_begin))) (l__law_begin : K.lookup f__law_begin = some ⟨oc__law_begin, od__law_begin, .func (PySem.W.fnOf "_law_begin" "_law_begin" (defArgs s__law_begin) (defBody s__law_begin) (defScope s__law_begin) .none kV__law_begin dc__law_begin pm__law_begin an__law_begin cd__law_begin ct__law_begin), sl__law_begin⟩) (c__law_begin : PySem.W.codeIn K cd__law_begin "_law_begin" = true) (k__law_begin : PySem.W.keepIn K (.ref f__law_begin) = true)
    {od__law_take an__law_take : Option Addr} {sl__law_take : Array (Option Value)} {oc__law_take kV__law_take dc__law_take pm__law_take cd__law_take ct__law_take : Value}
    (a__law_take : PySem.W.nsIn K mainGlobals "_law_take" = some (some (.ref f__law_take))) (l__law_take : K.lookup f__law_take = some ⟨oc__law_take, od__law_take, .func (PySem.W.fnOf "_law_take" "_law_take" (defArgs s__law_take) (defBody s__law_take) (defScope s__law_take) .none kV__law_take dc__law_take pm__law_take an__law_take cd__law_take ct__law_take), sl__law_take⟩) (c__law_take : PySem.W.codeIn K cd__law_take "_law_take" = true) (k__law_take : PySem.W.keepIn K (.ref f__law_take) = true)
    {od__law_pick an__law_pick : Option Addr} {sl__law_pick : Array (Option Value)} {oc__law_pick kV__law_pick dc__law_pick pm__law_pick cd__law_pick ct__law_pick : Value}
    (a__law_pick : PySem.W.nsIn K mainGlobals "_law_pick" = some (some (.ref f__law_pick))) (l__law_pick : K.lookup f__law_pick = some ⟨oc__law_pick, od__law_pick, .func (PySem.W.fnOf "_law_pick" "_law_pick" (defArgs s__law_pick) (defBody s__law_pick) (defScope s__law_pick) .none kV__law_pick dc__law_pick pm__law_pick an__law_pick cd__law_pick ct__law_pick), sl__law_pick⟩) (c__law_pick : PySem.W.codeIn K cd__law_pick "_law_pick" = true) (k__law_pick : PySem.W.keepIn K (.ref f__law_pick) = true)
    {od__law_names an__law_names : Option Addr} {sl__law_names : Array (Option Value)} {oc__law_names kV__law_names dc__law_names pm__law_names cd__law_names ct__law_names : Value}
    (a__law_names : PySem.W.nsIn K mainGlobals "_law_names" = some (some (.ref f__law_names))) (l__law_names : K.lookup f__law_names = some ⟨oc__law_names, od__law_names, .func (PySem.W.fnOf "_law_names" "_law_names" (defArgs s__law_names) (defBody s__law_names) (defScope s__law_names) .none kV__law_names dc__law_names pm__law_names an__law_names cd__law_names ct__law_names), sl__law_names⟩) (c__law_names : PySem.W.codeIn K cd__law_names "_law_names" = true) (k__law_names : PySem.W.keepIn K (.ref f__law_names) = true)
    {od__law_shape an__law_shape : Option Addr} {sl__law_shape : Array (Option Value)} {oc__law_shape kV__law_shape dc__law_shape pm__law_shape cd__law_shape ct__law_shape : Value}
    (a__law_shape : PySem.W.nsIn K mainGlobals "_law_shape" = some (some (.ref f__law_shape))) (l__law_shape : K.lookup f__law_shape = some ⟨oc__law_shape, od__law_shape, .func (PySem.W.fnOf "_law_shape" "_law_shape" (defArgs s__law_shape) (defBody s__law_shape) (defScope s__law_shape) .none kV__law_shape dc__law_shape pm__law_shape an__law_shape cd__law_shape ct__law_shape), sl__law_shape⟩) (c__law_shape : PySem.W.codeIn K cd__law_shape "_law_shape" = true) (k__law_shape : PySem.W.keepIn K (.ref f__law_shape) = true)
    {od__law_true an__law_true : Option Addr} {sl__law_true : Array (Option Value)} {oc__law_true kV__law_true dc__law_true pm__law_true cd__law_true ct__law_true : Value}
    (a__law_true : PySem.W.nsIn K mainGlobals "_law_true" = some (some (.ref f__law_true))) (l__law_true : K.lookup f__law_true = some ⟨oc__law_true, od__law_true, .func (PySem.W.fnOf "_law_true" "_law_true" (defArgs s__law_true) (defBody s__law_true) (defScope s__law_true) .none kV__law_true dc__law_true pm__law_true an__law_true cd__law_true ct__law_true), sl__law_true⟩) (c__law_true : PySem.W.codeIn K cd__law_true "_law_true" = true) (k__law_true : PySem.W.keepIn K (.ref f__law_true) = true)
    {od__law_sight an__law_sight : Option Addr} {sl__law_sight : Array (Option Value)} {oc__law_sight kV__law_sight dc__law_sight pm__law_sight cd__law_sight ct__law_sight : Value}
    (a__law_sight : PySem.W.nsIn K mainGlobals "_law_sight" = some (some (.ref f__law_sight))) (l__law_sight : K.lookup f__law_sight = some ⟨oc__law_sight, od__law_sight, .func (PySem.W.fnOf "_law_sight" "_law_sight" (defArgs s__law_sight) (defBody s__law_sight) (defScope s__law_sight) .none kV__law_sight dc__law_sight pm__law_sight an__law_sight cd__law_sight ct__law_sight), sl__law_sight⟩) (c__law_sight : PySem.W.codeIn K cd__law_sight "_law_sight" = true) (k__law_sight : PySem.W.keepIn K (.ref f__law_sight) = true)
    {od__law_point an__law_point : Option Addr} {sl__law_point : Array (Option Value)} {oc__law_point kV__law_point dc__law_point pm__law_point cd__law_point ct__law_point : Value}
    (a__law_point : PySem.W.nsIn K mainGlobals "_law_point" = some (some (.ref f__law_point))) (l__law_point : K.lookup f__law_point = some ⟨oc__law_point, od__law_point, .func (PySem.W.fnOf "_law_point" "_law_point" (defArgs s__law_point) (defBody s__law_point) (defScope s__law_point) .none kV__law_point dc__law_point pm__law_point an__law_point cd__law_point ct__law_point), sl__law_point⟩) (c__law_point : PySem.W.codeIn K cd__law_point "_law_point" = true) (k__law_point : PySem.W.keepIn K (.ref f__law_point) = true)
    {od__law_bound_text an__law_bound_text : Option Addr} {sl__law_bound_text : Array (Option Value)} {oc__law_bound_text kV__law_bound_text dc__law_bound_text pm__law_bound_text cd__law_bound_text ct__law_bound_text : Value}
    (a__law_bound_text : PySem.W.nsIn K mainGlobals "_law_bound_text" = some (some (.ref f__law_bound_text))) (l__law_bound_text : K.lookup f__law_bound_text = some ⟨oc__law_bound_text, od__law_bound_text, .func (PySem.W.fnOf "_law_bound_text" "_law_bound_text" (defArgs s__law_bound_text) (defBody s__law_bound_text) (defScope s__law_bound_text) .none kV__law_bound_text dc__law_bound_text pm__law_bound_text an__law_bound_text cd__law_bound_text ct__law_bound_text), sl__law_bound_text⟩) (c__law_bound_text : PySem.W.codeIn K cd__law_bound_text "_law_bound_text" = true) (k__law_bound_text : PySem.W.keepIn K (.ref f__law_bound_text) = true)
    {od__law_sight_text an__law_sight_text : Option Addr} {sl__law_sight_text : Array (Option Value)} {oc__law_sight_text kV__law_sight_text dc__law_sight_text pm__law_sight_text cd__law_sight_text ct__law_sight_text : Value}
    (a__law_sight_text : PySem.W.nsIn K mainGlobals "_law_sight_text" = some (some (.ref f__law_sight_text))) (l__law_sight_text : K.lookup f__law_sight_text = some ⟨oc__law_sight_text, od__law_sight_text, .func (PySem.W.fnOf "_law_sight_text" "_law_sight_text" (defArgs s__law_sight_text) (defBody s__law_sight_text) (defScope s__law_sight_text) .none kV__law_sight_text dc__law_sight_text pm__law_sight_text an__law_sight_text cd__law_sight_text ct__law_sight_text), sl__law_sight_text⟩) (c__law_sight_text : PySem.W.codeIn K cd__law_sight_text "_law_sight_text" = true) (k__law_sight_text : PySem.W.keepIn K (.ref f__law_sight_text) = true)
    {od__law_aim_text an__law_aim_text : Option Addr} {sl__law_aim_text : Array (Option Value)} {oc__law_aim_text kV__law_aim_text dc__law_aim_text pm__law_aim_text cd__law_aim_text ct__law_aim_text : Value}
    (a__law_aim_text : PySem.W.nsIn K mainGlobals "_law_aim_text" = some (some (.ref f__law_aim_text))) (l__law_aim_text : K.lookup f__law_aim_text = some ⟨oc__law_aim_text, od__law_aim_text, .func (PySem.W.fnOf "_law_aim_text" "_law_aim_text" (defArgs s__law_aim_text) (defBody s__law_aim_text) (defScope s__law_aim_text) .none kV__law_aim_text dc__law_aim_text pm__law_aim_text an__law_aim_text cd__law_aim_text ct__law_aim_text), sl__law_aim_text⟩) (c__law_aim_text : PySem.W.codeIn K cd__law_aim_text "_law_aim_text" = true) (k__law_aim_text : PySem.W.keepIn K (.ref f__law_aim_text) = true)
    {od__law_point_text an__law_point_text : Option Addr} {sl__law_point_text : Array (Option Value)} {oc__law_point_text kV__law_point_text dc__law_point_text pm__law_point_text cd__law_point_text ct__law_point_text : Value}
    (a__law_point_text : PySem.W.nsIn K mainGlobals "_law_point_text" = some (some (.ref f__law_point_text))) (l__law_point_text : K.lookup f__law_point_text = some ⟨oc__law_point_text, od__law_point_text, .func (PySem.W.fnOf "_law_point_text" "_law_point_text" (defArgs s__law_point_text) (defBody s__law_point_text) (defScope s__law_point_text) .none kV__law_point_text dc__law_point_text pm__law_point_text an__law_point_text cd__law_point_text ct__law_point_text), sl__law_point_text⟩) (c__law_point_text : PySem.W.codeIn K cd__law_point_text "_law_point_text" = true) (k__law_point_text : PySem.W.keepIn K (.ref f__law_point_text) = true)
    {od_law an_law : Option Addr} {sl_law : Array (Option Value)} {oc_law kV_law dc_law pm_law cd_law ct_law : Value}
    (a_law : PySem.W.nsIn K mainGlobals "law" = some (some (.ref f_law))) (l_law : K.lookup f_law = some ⟨oc_law, od_law, .func (PySem.W.fnOf "law" "law" (defArgs s_law) (defBody s_law) (defScope s_law) .none kV_law dc_law pm_law an_law cd_law ct_law), sl_law⟩) (c_law : PySem.W.codeIn K cd_law "law" = true) (k_law : PySem.W.keepIn K (.ref f_law) = true)
    (z_abs : PySem.W.nsIn K mainGlobals "abs" = some none)
    (z_all : PySem.W.nsIn K mainGlobals "all" = some none)
    (z_enumerate : PySem.W.nsIn K mainGlobals "enumerate" = some none)
    (z_int : PySem.W.nsIn K mainGlobals "int" = some none)
    (z_isinstance : PySem.W.nsIn K mainGlobals "isinstance" = some none)
    (z_len : PySem.W.nsIn K mainGlobals "len" = some none)
    (z_list : PySem.W.nsIn K mainGlobals "list" = some none)
    (z_range : PySem.W.nsIn K mainGlobals "range" = some none)
    (z_repr : PySem.W.nsIn K mainGlobals "repr" = some none)
    (z_set : PySem.W.nsIn K mainGlobals "set" = some none)
    (z_str : PySem.W.nsIn K mainGlobals "str" = some none)
    (z_tuple : PySem.W.nsIn K mainGlobals "tuple" = some none)
    (z_zip : PySem.W.nsIn K mainGlobals "zip" = some none)
    {t_FEWEST_LINES : Tok} (x_FEWEST_LINES : PySem.W.nsIn K mainGlobals "FEWEST_LINES" = some (some (.int (2) t_FEWEST_LINES)))
    {t_FIGURES : Tok} (x_FIGURES : PySem.W.nsIn K mainGlobals "FIGURES" = some (some (.str "0123456789" t_FIGURES)))
    {a_HEADS : Addr} {do_HEADS : Option Addr} {it_HEADS : Array Value} {en_HEADS : Nat} {so_HEADS : Array (Option Value)} (x_HEADS : PySem.W.nsIn K mainGlobals "HEADS" = some (some (.ref a_HEADS))) (y_HEADS : K.lookup a_HEADS = some ⟨.type "tuple", do_HEADS, .seq it_HEADS en_HEADS, so_HEADS⟩) (w_HEADS : Vals [.str "uprights", .str "levels"] it_HEADS.toList) (v_HEADS : it_HEADS.size ≤ sizeLine)
    {t_LETTERS : Tok} (x_LETTERS : PySem.W.nsIn K mainGlobals "LETTERS" = some (some (.str "abcdefghijklmnopqrstuvwxyz" t_LETTERS)))
    {t_LONGEST_NAME : Tok} (x_LONGEST_NAME : PySem.W.nsIn K mainGlobals "LONGEST_NAME" = some (some (.int (8) t_LONGEST_NAME)))
    {t_MOST_FIGURES : Tok} (x_MOST_FIGURES : PySem.W.nsIn K mainGlobals "MOST_FIGURES" = some (some (.int (40) t_MOST_FIGURES)))
    {t_MOST_LINES : Tok} (x_MOST_LINES : PySem.W.nsIn K mainGlobals "MOST_LINES" = some (some (.int (8) t_MOST_LINES)))
    {t_NOTHING : Tok} (x_NOTHING : PySem.W.nsIn K mainGlobals "NOTHING" = some (some (.str "-" t_NOTHING))) :
    ∃ (x qual : Str) (st : Stmt) (fd : FuncData) (N : List Str), Fun K x qual st fa fd ∧ FnScope N ["script"] (defScope st) ∧ (∀ (s : Shared) (u : Value), BindsTo s fd ⟨[u], []⟩ [("script", u)]) ∧ LawGo l.prog w K mg fa qual st N 5 63 := by
  have e := hfa.symm.trans (PySem.W.mg_of X G a_law)
  cases e
  exact ⟨"law", "law", s_law, _, NN_law, fun_mk (st := s_law) l_law c_law k_law, sc_law, fun s v => .of_eq rfl, law_go {
    C_Plan := C_Plan,
    cl_Plan := ⟨pg_Plan, hd_Plan, po_Plan, sa_Plan⟩,
    mg_Plan := PySem.W.mg_of X G p_Plan,
    na_Plan_families := na_Plan_families,
    nf_Plan := nf_Plan,
    ic_Plan := ⟨⟨pg_Plan, hd_Plan, po_Plan, sa_Plan⟩, i1_Plan, i2_Plan, i3_Plan, i4_Plan, kit_self⟩,
    f_Plan___eq__ := f_Plan___eq__,
    d_Plan___eq__ := _,
    F_Plan___eq__ := (fun_mk (st := s_Plan___eq__) l_Plan___eq__ c_Plan___eq__ k_Plan___eq__),
    M_Plan___eq__ := ⟨a_Plan___eq__, i_Plan___eq__, k_Plan___eq__⟩,
    b_Plan___eq__ := Fun.binds (fun_mk (st := s_Plan___eq__) l_Plan___eq__ c_Plan___eq__ k_Plan___eq__) (fun _ _ _ _ _ _ us hl => match us, hl with | [_, _], _ => rfl),
    f_is_name := f_is_name,
    d_is_name := _,
    F_is_name := (fun_mk (st := s_is_name) l_is_name c_is_name k_is_name),
    g_is_name := PySem.W.mg_of X G a_is_name,
    b_is_name := Fun.binds (fun_mk (st := s_is_name) l_is_name c_is_name k_is_name) (fun _ _ _ _ _ _ us hl => match us, hl with | [_], _ => rfl),
    f_are_lines := f_are_lines,
    d_are_lines := _,
    F_are_lines := (fun_mk (st := s_are_lines) l_are_lines c_are_lines k_are_lines),
    g_are_lines := PySem.W.mg_of X G a_are_lines,
    b_are_lines := Fun.binds (fun_mk (st := s_are_lines) l_are_lines c_are_lines k_are_lines) (fun _ _ _ _ _ _ us hl => match us, hl with | [_], _ => rfl),
    f_Plan___init__ := f_Plan___init__,
    d_Plan___init__ := _,
    F_Plan___init__ := (fun_mk (st := s_Plan___init__) l_Plan___init__ c_Plan___init__ k_Plan___init__),
    M_Plan___init__ := ⟨mk_Plan, a_Plan___init__, i_Plan___init__, kc_Plan⟩,
    b_Plan___init__ := Fun.binds (fun_mk (st := s_Plan___init__) l_Plan___init__ c_Plan___init__ k_Plan___init__) (fun _ _ _ _ _ _ us hl => match us, hl with | [_, _, _], _ => rfl),
    f_Plan_lines := f_Plan_lines,
    d_Plan_lines := _,
    F_Plan_lines := (fun_mk (st := s_Plan_lines) l_Plan_lines c_Plan_lines k_Plan_lines),
    M_Plan_lines := ⟨a_Plan_lines, i_Plan_lines, k_Plan_lines⟩,
    b_Plan_lines := Fun.binds (fun_mk (st := s_Plan_lines) l_Plan_lines c_Plan_lines k_Plan_lines) (fun _ _ _ _ _ _ us hl => match us, hl with | [_, _], _ => rfl),
    f_bound_text := f_bound_text,
    d_bound_text := _,
    F_bound_text := (fun_mk (st := s_bound_text) l_bound_text c_bound_text k_bound_text),
    g_bound_text := PySem.W.mg_of X G a_bound_text,
    b_bound_text := Fun.binds (fun_mk (st := s_bound_text) l_bound_text c_bound_text k_bound_text) (fun _ _ _ _ _ _ us hl => match us, hl with | [_], _ => rfl),
    f_sight_text := f_sight_text,
    d_sight_text := _,
    F_sight_text := (fun_mk (st := s_sight_text) l_sight_text c_sight_text k_sight_text),
    g_sight_text := PySem.W.mg_of X G a_sight_text,
    b_sight_text := Fun.binds (fun_mk (st := s_sight_text) l_sight_text c_sight_text k_sight_text) (fun _ _ _ _ _ _ us hl => match us, hl with | [_], _ => rfl),
    f_number_by := f_number_by,
    d_number_by := _,
    F_number_by := (fun_mk (st := s_number_by) l_number_by c_number_by k_number_by),
    g_number_by := PySem.W.mg_of X G a_number_by,
    b_number_by := Fun.binds (fun_mk (st := s_number_by) l_number_by c_number_by k_number_by) (fun _ _ _ _ _ _ us hl => match us, hl with | [_], _ => rfl),
    f_whole_by := f_whole_by,
    d_whole_by := _,
    F_whole_by := (fun_mk (st := s_whole_by) l_whole_by c_whole_by k_whole_by),
    g_whole_by := PySem.W.mg_of X G a_whole_by,
    b_whole_by := Fun.binds (fun_mk (st := s_whole_by) l_whole_by c_whole_by k_whole_by) (fun _ _ _ _ _ _ us hl => match us, hl with | [_], _ => rfl),
    f_is_bound_word := f_is_bound_word,
    d_is_bound_word := _,
    F_is_bound_word := (fun_mk (st := s_is_bound_word) l_is_bound_word c_is_bound_word k_is_bound_word),
    g_is_bound_word := PySem.W.mg_of X G a_is_bound_word,
    b_is_bound_word := Fun.binds (fun_mk (st := s_is_bound_word) l_is_bound_word c_is_bound_word k_is_bound_word) (fun _ _ _ _ _ _ us hl => match us, hl with | [_], _ => rfl),
    f_read_sight := f_read_sight,
    d_read_sight := _,
    F_read_sight := (fun_mk (st := s_read_sight) l_read_sight c_read_sight k_read_sight),
    g_read_sight := PySem.W.mg_of X G a_read_sight,
    b_read_sight := Fun.binds (fun_mk (st := s_read_sight) l_read_sight c_read_sight k_read_sight) (fun _ _ _ _ _ _ us hl => match us, hl with | [_], _ => rfl),
    f_aim_text := f_aim_text,
    d_aim_text := _,
    F_aim_text := (fun_mk (st := s_aim_text) l_aim_text c_aim_text k_aim_text),
    g_aim_text := PySem.W.mg_of X G a_aim_text,
    b_aim_text := Fun.binds (fun_mk (st := s_aim_text) l_aim_text c_aim_text k_aim_text) (fun _ _ _ _ _ _ us hl => match us, hl with | [_], _ => rfl),
    f_point_text := f_point_text,
    d_point_text := _,
    F_point_text := (fun_mk (st := s_point_text) l_point_text c_point_text k_point_text),
    g_point_text := PySem.W.mg_of X G a_point_text,
    b_point_text := Fun.binds (fun_mk (st := s_point_text) l_point_text c_point_text k_point_text) (fun _ _ _ _ _ _ us hl => match us, hl with | [_], _ => rfl),
    f_aim_by := f_aim_by,
    d_aim_by := _,
    F_aim_by := (fun_mk (st := s_aim_by) l_aim_by c_aim_by k_aim_by),
    g_aim_by := PySem.W.mg_of X G a_aim_by,
    b_aim_by := Fun.binds (fun_mk (st := s_aim_by) l_aim_by c_aim_by k_aim_by) (fun _ _ _ _ _ _ us hl => match us, hl with | [_], _ => rfl),
    f_read_point := f_read_point,
    d_read_point := _,
    F_read_point := (fun_mk (st := s_read_point) l_read_point c_read_point k_read_point),
    g_read_point := PySem.W.mg_of X G a_read_point,
    b_read_point := Fun.binds (fun_mk (st := s_read_point) l_read_point c_read_point k_read_point) (fun _ _ _ _ _ _ us hl => match us, hl with | [_], _ => rfl),
    f_plan_text := f_plan_text,
    d_plan_text := _,
    F_plan_text := (fun_mk (st := s_plan_text) l_plan_text c_plan_text k_plan_text),
    g_plan_text := PySem.W.mg_of X G a_plan_text,
    b_plan_text := Fun.binds (fun_mk (st := s_plan_text) l_plan_text c_plan_text k_plan_text) (fun _ _ _ _ _ _ us hl => match us, hl with | [_], _ => rfl),
    f_names_by := f_names_by,
    d_names_by := _,
    F_names_by := (fun_mk (st := s_names_by) l_names_by c_names_by k_names_by),
    g_names_by := PySem.W.mg_of X G a_names_by,
    b_names_by := Fun.binds (fun_mk (st := s_names_by) l_names_by c_names_by k_names_by) (fun _ _ _ _ _ _ us hl => match us, hl with | [_, _], _ => rfl),
    f_read_plan := f_read_plan,
    d_read_plan := _,
    F_read_plan := (fun_mk (st := s_read_plan) l_read_plan c_read_plan k_read_plan),
    g_read_plan := PySem.W.mg_of X G a_read_plan,
    b_read_plan := Fun.binds (fun_mk (st := s_read_plan) l_read_plan c_read_plan k_read_plan) (fun _ _ _ _ _ _ us hl => match us, hl with | [_], _ => rfl),
    f__law_begin := f__law_begin,
    d__law_begin := _,
    F__law_begin := (fun_mk (st := s__law_begin) l__law_begin c__law_begin k__law_begin),
    g__law_begin := PySem.W.mg_of X G a__law_begin,
    b__law_begin := Fun.binds (fun_mk (st := s__law_begin) l__law_begin c__law_begin k__law_begin) (fun _ _ _ _ _ _ us hl => match us, hl with | [_], _ => rfl),
    f__law_take := f__law_take,
    d__law_take := _,
    F__law_take := (fun_mk (st := s__law_take) l__law_take c__law_take k__law_take),
    g__law_take := PySem.W.mg_of X G a__law_take,
    b__law_take := Fun.binds (fun_mk (st := s__law_take) l__law_take c__law_take k__law_take) (fun _ _ _ _ _ _ us hl => match us, hl with | [_, _], _ => rfl),
    f__law_pick := f__law_pick,
    d__law_pick := _,
    F__law_pick := (fun_mk (st := s__law_pick) l__law_pick c__law_pick k__law_pick),
    g__law_pick := PySem.W.mg_of X G a__law_pick,
    b__law_pick := Fun.binds (fun_mk (st := s__law_pick) l__law_pick c__law_pick k__law_pick) (fun _ _ _ _ _ _ us hl => match us, hl with | [_, _], _ => rfl),
    f__law_names := f__law_names,
    d__law_names := _,
    F__law_names := (fun_mk (st := s__law_names) l__law_names c__law_names k__law_names),
    g__law_names := PySem.W.mg_of X G a__law_names,
    b__law_names := Fun.binds (fun_mk (st := s__law_names) l__law_names c__law_names k__law_names) (fun _ _ _ _ _ _ us hl => match us, hl with | [_, _], _ => rfl),
    f__law_shape := f__law_shape,
    d__law_shape := _,
    F__law_shape := (fun_mk (st := s__law_shape) l__law_shape c__law_shape k__law_shape),
    g__law_shape := PySem.W.mg_of X G a__law_shape,
    b__law_shape := Fun.binds (fun_mk (st := s__law_shape) l__law_shape c__law_shape k__law_shape) (fun _ _ _ _ _ _ us hl => match us, hl with | [_, _], _ => rfl),
    f__law_true := f__law_true,
    d__law_true := _,
    F__law_true := (fun_mk (st := s__law_true) l__law_true c__law_true k__law_true),
    g__law_true := PySem.W.mg_of X G a__law_true,
    b__law_true := Fun.binds (fun_mk (st := s__law_true) l__law_true c__law_true k__law_true) (fun _ _ _ _ _ _ us hl => match us, hl with | [_, _], _ => rfl),
    f__law_sight := f__law_sight,
    d__law_sight := _,
    F__law_sight := (fun_mk (st := s__law_sight) l__law_sight c__law_sight k__law_sight),
    g__law_sight := PySem.W.mg_of X G a__law_sight,
    b__law_sight := Fun.binds (fun_mk (st := s__law_sight) l__law_sight c__law_sight k__law_sight) (fun _ _ _ _ _ _ us hl => match us, hl with | [_, _, _, _], _ => rfl),
    f__law_point := f__law_point,
    d__law_point := _,
    F__law_point := (fun_mk (st := s__law_point) l__law_point c__law_point k__law_point),
    g__law_point := PySem.W.mg_of X G a__law_point,
    b__law_point := Fun.binds (fun_mk (st := s__law_point) l__law_point c__law_point k__law_point) (fun _ _ _ _ _ _ us hl => match us, hl with | [_, _, _], _ => rfl),
    f__law_bound_text := f__law_bound_text,
    d__law_bound_text := _,
    F__law_bound_text := (fun_mk (st := s__law_bound_text) l__law_bound_text c__law_bound_text k__law_bound_text),
    g__law_bound_text := PySem.W.mg_of X G a__law_bound_text,
    b__law_bound_text := Fun.binds (fun_mk (st := s__law_bound_text) l__law_bound_text c__law_bound_text k__law_bound_text) (fun _ _ _ _ _ _ us hl => match us, hl with | [_], _ => rfl),
    f__law_sight_text := f__law_sight_text,
    d__law_sight_text := _,
    F__law_sight_text := (fun_mk (st := s__law_sight_text) l__law_sight_text c__law_sight_text k__law_sight_text),
    g__law_sight_text := PySem.W.mg_of X G a__law_sight_text,
    b__law_sight_text := Fun.binds (fun_mk (st := s__law_sight_text) l__law_sight_text c__law_sight_text k__law_sight_text) (fun _ _ _ _ _ _ us hl => match us, hl with | [_], _ => rfl),
    f__law_aim_text := f__law_aim_text,
    d__law_aim_text := _,
    F__law_aim_text := (fun_mk (st := s__law_aim_text) l__law_aim_text c__law_aim_text k__law_aim_text),
    g__law_aim_text := PySem.W.mg_of X G a__law_aim_text,
    b__law_aim_text := Fun.binds (fun_mk (st := s__law_aim_text) l__law_aim_text c__law_aim_text k__law_aim_text) (fun _ _ _ _ _ _ us hl => match us, hl with | [_], _ => rfl),
    f__law_point_text := f__law_point_text,
    d__law_point_text := _,
    F__law_point_text := (fun_mk (st := s__law_point_text) l__law_point_text c__law_point_text k__law_point_text),
    g__law_point_text := PySem.W.mg_of X G a__law_point_text,
    b__law_point_text := Fun.binds (fun_mk (st := s__law_point_text) l__law_point_text c__law_point_text k__law_point_text) (fun _ _ _ _ _ _ us hl => match us, hl with | [_], _ => rfl),
    f_law := fa,
    d_law := _,
    F_law := (fun_mk (st := s_law) l_law c_law k_law),
    g_law := PySem.W.mg_of X G a_law,
    b_law := Fun.binds (fun_mk (st := s_law) l_law c_law k_law) (fun _ _ _ _ _ _ us hl => match us, hl with | [_], _ => rfl),
    n_abs := PySem.W.mg_none_of X G z_abs,
    n_all := PySem.W.mg_none_of X G z_all,
    n_enumerate := PySem.W.mg_none_of X G z_enumerate,
    n_int := PySem.W.mg_none_of X G z_int,
    n_isinstance := PySem.W.mg_none_of X G z_isinstance,
    n_len := PySem.W.mg_none_of X G z_len,
    n_list := PySem.W.mg_none_of X G z_list,
    n_range := PySem.W.mg_none_of X G z_range,
    n_repr := PySem.W.mg_none_of X G z_repr,
    n_set := PySem.W.mg_none_of X G z_set,
    n_str := PySem.W.mg_none_of X G z_str,
    n_tuple := PySem.W.mg_none_of X G z_tuple,
    n_zip := PySem.W.mg_none_of X G z_zip,
    t_FEWEST_LINES := t_FEWEST_LINES,
    m_FEWEST_LINES := PySem.W.mg_of X G x_FEWEST_LINES,
    t_FIGURES := t_FIGURES,
    m_FIGURES := PySem.W.mg_of X G x_FIGURES,
    a_HEADS := a_HEADS,
    m_HEADS := PySem.W.mg_of X G x_HEADS,
    v_HEADS := .tup (.inr ⟨_, it_HEADS, en_HEADS, y_HEADS, rfl, rfl, v_HEADS, w_HEADS⟩) (.cons (.str _) (.cons (.str _) .nil)),
    t_LETTERS := t_LETTERS,
    m_LETTERS := PySem.W.mg_of X G x_LETTERS,
    t_LONGEST_NAME := t_LONGEST_NAME,
    m_LONGEST_NAME := PySem.W.mg_of X G x_LONGEST_NAME,
    t_MOST_FIGURES := t_MOST_FIGURES,
    m_MOST_FIGURES := PySem.W.mg_of X G x_MOST_FIGURES,
    t_MOST_LINES := t_MOST_LINES,
    m_MOST_LINES := PySem.W.mg_of X G x_MOST_LINES,
    t_NOTHING := t_NOTHING,
    m_NOTHING := PySem.W.mg_of X G x_NOTHING,
    kb_read_point_0_text := kb_of (fun_mk (st := s_read_point) l_read_point c_read_point k_read_point) rfl (fun _ _ _ _ _ _ us ws h1 h2 => match us, ws, h1, h2 with | [], [w0], _, _ => rfl),
    kb_point_text_0_point := kb_of (fun_mk (st := s_point_text) l_point_text c_point_text k_point_text) rfl (fun _ _ _ _ _ _ us ws h1 h2 => match us, ws, h1, h2 with | [], [w0], _, _ => rfl),
    kb_read_sight_0_text := kb_of (fun_mk (st := s_read_sight) l_read_sight c_read_sight k_read_sight) rfl (fun _ _ _ _ _ _ us ws h1 h2 => match us, ws, h1, h2 with | [], [w0], _, _ => rfl),
    kb_sight_text_0_sight := kb_of (fun_mk (st := s_sight_text) l_sight_text c_sight_text k_sight_text) rfl (fun _ _ _ _ _ _ us ws h1 h2 => match us, ws, h1, h2 with | [], [w0], _, _ => rfl),
    kb_read_plan_0_text := kb_of (fun_mk (st := s_read_plan) l_read_plan c_read_plan k_read_plan) rfl (fun _ _ _ _ _ _ us ws h1 h2 => match us, ws, h1, h2 with | [], [w0], _, _ => rfl),
    kb_plan_text_0_plan := kb_of (fun_mk (st := s_plan_text) l_plan_text c_plan_text k_plan_text) rfl (fun _ _ _ _ _ _ us ws h1 h2 => match us, ws, h1, h2 with | [], [w0], _, _ => rfl) }⟩
end Q84
open PySem PySem.W PyProof.Rows DL in
set_option maxRecDepth 100000 in
set_option maxHeartbeats 0 in
theorem PySem.Challenge.cw_lothouse_k84_texts_written_and_read_holds : PySem.Challenge.rw_lothouse_k84_texts_written_and_read.Holds := by
  w_on; o_law; k_head; (case hw => w_witness2)
  k_fill
  refine DL.walk_top (n := 5) (m := 63) (l := PySem.Challenge.rw_lothouse_k84_texts_written_and_read) rfl (by decide) rfl ⟨rfl, by decide, by decide⟩ (fun w h Y => PySem.W.kIn_of Y) ?F
  case F =>
    intro w mg fa h KX G hmg
    refine' Q84.all_mk KX G hmg ?p_Plan ?pg_Plan ?hd_Plan ?po_Plan ?sa_Plan ?mk_Plan ?kc_Plan ?na_Plan_families ?nf_Plan ?i1_Plan ?i2_Plan ?i3_Plan ?i4_Plan ?a_Plan___eq__ ?i_Plan___eq__ ?l_Plan___eq__ ?c_Plan___eq__ ?k_Plan___eq__ ?a_is_name ?l_is_name ?c_is_name ?k_is_name ?a_are_lines ?l_are_lines ?c_are_lines ?k_are_lines ?a_Plan___init__ ?i_Plan___init__ ?l_Plan___init__ ?c_Plan___init__ ?k_Plan___init__ ?a_Plan_lines ?i_Plan_lines ?l_Plan_lines ?c_Plan_lines ?k_Plan_lines ?a_bound_text ?l_bound_text ?c_bound_text ?k_bound_text ?a_sight_text ?l_sight_text ?c_sight_text ?k_sight_text ?a_number_by ?l_number_by ?c_number_by ?k_number_by ?a_whole_by ?l_whole_by ?c_whole_by ?k_whole_by ?a_is_bound_word ?l_is_bound_word ?c_is_bound_word ?k_is_bound_word ?a_read_sight ?l_read_sight ?c_read_sight ?k_read_sight ?a_aim_text ?l_aim_text ?c_aim_text ?k_aim_text ?a_point_text ?l_point_text ?c_point_text ?k_point_text ?a_aim_by ?l_aim_by ?c_aim_by ?k_aim_by ?a_read_point ?l_read_point ?c_read_point ?k_read_point ?a_plan_text ?l_plan_text ?c_plan_text ?k_plan_text ?a_names_by ?l_names_by ?c_names_by ?k_names_by ?a_read_plan ?l_read_plan ?c_read_plan ?k_read_plan ?a__law_begin ?l__law_begin ?c__law_begin ?k__law_begin ?a__law_take ?l__law_take ?c__law_take ?k__law_take ?a__law_pick ?l__law_pick ?c__law_pick ?k__law_pick ?a__law_names ?l__law_names ?c__law_names ?k__law_names ?a__law_shape ?l__law_shape ?c__law_shape ?k__law_shape ?a__law_true ?l__law_true ?c__law_true ?k__law_true ?a__law_sight ?l__law_sight ?c__law_sight ?k__law_sight ?a__law_point ?l__law_point ?c__law_point ?k__law_point ?a__law_bound_text ?l__law_bound_text ?c__law_bound_text ?k__law_bound_text ?a__law_sight_text ?l__law_sight_text ?c__law_sight_text ?k__law_sight_text ?a__law_aim_text ?l__law_aim_text ?c__law_aim_text ?k__law_aim_text ?a__law_point_text ?l__law_point_text ?c__law_point_text ?k__law_point_text ?a_law ?l_law ?c_law ?k_law ?z_abs ?z_all ?z_enumerate ?z_int ?z_isinstance ?z_len ?z_list ?z_range ?z_repr ?z_set ?z_str ?z_tuple ?z_zip ?x_FEWEST_LINES ?x_FIGURES ?x_HEADS ?y_HEADS ?w_HEADS ?v_HEADS ?x_LETTERS ?x_LONGEST_NAME ?x_MOST_FIGURES ?x_MOST_LINES ?x_NOTHING
    (case p_Plan => k_is)
    (case pg_Plan => k_is)
    (case hd_Plan => k_is)
    (case po_Plan => k_is)
    (case sa_Plan => k_is)
    (case mk_Plan => k_is)
    (case kc_Plan => k_is)
    (case na_Plan_families => k_is)
    (case nf_Plan => k_is)
    (case i1_Plan => k_is)
    (case i2_Plan => k_is)
    (case i3_Plan => k_is)
    (case i4_Plan => k_is)
    (case a_Plan___eq__ => k_is)
    (case i_Plan___eq__ => k_is)
    (case l_Plan___eq__ => k_is)
    (case c_Plan___eq__ => k_is)
    (case k_Plan___eq__ => k_is)
    (case a_is_name => k_is)
    (case l_is_name => k_is)
    (case c_is_name => k_is)
    (case k_is_name => k_is)
    (case a_are_lines => k_is)
    (case l_are_lines => k_is)
    (case c_are_lines => k_is)
    (case k_are_lines => k_is)
    (case a_Plan___init__ => k_is)
    (case i_Plan___init__ => k_is)
    (case l_Plan___init__ => k_is)
    (case c_Plan___init__ => k_is)
    (case k_Plan___init__ => k_is)
    (case a_Plan_lines => k_is)
    (case i_Plan_lines => k_is)
    (case l_Plan_lines => k_is)
    (case c_Plan_lines => k_is)
    (case k_Plan_lines => k_is)
    (case a_bound_text => k_is)
    (case l_bound_text => k_is)
    (case c_bound_text => k_is)
    (case k_bound_text => k_is)
    (case a_sight_text => k_is)
    (case l_sight_text => k_is)
    (case c_sight_text => k_is)
    (case k_sight_text => k_is)
    (case a_number_by => k_is)
    (case l_number_by => k_is)
    (case c_number_by => k_is)
    (case k_number_by => k_is)
    (case a_whole_by => k_is)
    (case l_whole_by => k_is)
    (case c_whole_by => k_is)
    (case k_whole_by => k_is)
    (case a_is_bound_word => k_is)
    (case l_is_bound_word => k_is)
    (case c_is_bound_word => k_is)
    (case k_is_bound_word => k_is)
    (case a_read_sight => k_is)
    (case l_read_sight => k_is)
    (case c_read_sight => k_is)
    (case k_read_sight => k_is)
    (case a_aim_text => k_is)
    (case l_aim_text => k_is)
    (case c_aim_text => k_is)
    (case k_aim_text => k_is)
    (case a_point_text => k_is)
    (case l_point_text => k_is)
    (case c_point_text => k_is)
    (case k_point_text => k_is)
    (case a_aim_by => k_is)
    (case l_aim_by => k_is)
    (case c_aim_by => k_is)
    (case k_aim_by => k_is)
    (case a_read_point => k_is)
    (case l_read_point => k_is)
    (case c_read_point => k_is)
    (case k_read_point => k_is)
    (case a_plan_text => k_is)
    (case l_plan_text => k_is)
    (case c_plan_text => k_is)
    (case k_plan_text => k_is)
    (case a_names_by => k_is)
    (case l_names_by => k_is)
    (case c_names_by => k_is)
    (case k_names_by => k_is)
    (case a_read_plan => k_is)
    (case l_read_plan => k_is)
    (case c_read_plan => k_is)
    (case k_read_plan => k_is)
    (case a__law_begin => k_is)
    (case l__law_begin => k_is)
    (case c__law_begin => k_is)
    (case k__law_begin => k_is)
    (case a__law_take => k_is)
    (case l__law_take => k_is)
    (case c__law_take => k_is)
    (case k__law_take => k_is)
    (case a__law_pick => k_is)
    (case l__law_pick => k_is)
    (case c__law_pick => k_is)
    (case k__law_pick => k_is)
    (case a__law_names => k_is)
    (case l__law_names => k_is)
    (case c__law_names => k_is)
    (case k__law_names => k_is)
    (case a__law_shape => k_is)
    (case l__law_shape => k_is)
    (case c__law_shape => k_is)
    (case k__law_shape => k_is)
    (case a__law_true => k_is)
    (case l__law_true => k_is)
    (case c__law_true => k_is)
    (case k__law_true => k_is)
    (case a__law_sight => k_is)
    (case l__law_sight => k_is)
    (case c__law_sight => k_is)
    (case k__law_sight => k_is)
    (case a__law_point => k_is)
    (case l__law_point => k_is)
    (case c__law_point => k_is)
    (case k__law_point => k_is)
    (case a__law_bound_text => k_is)
    (case l__law_bound_text => k_is)
    (case c__law_bound_text => k_is)
    (case k__law_bound_text => k_is)
    (case a__law_sight_text => k_is)
    (case l__law_sight_text => k_is)
    (case c__law_sight_text => k_is)
    (case k__law_sight_text => k_is)
    (case a__law_aim_text => k_is)
    (case l__law_aim_text => k_is)
    (case c__law_aim_text => k_is)
    (case k__law_aim_text => k_is)
    (case a__law_point_text => k_is)
    (case l__law_point_text => k_is)
    (case c__law_point_text => k_is)
    (case k__law_point_text => k_is)
    (case a_law => k_is)
    (case l_law => k_is)
    (case c_law => k_is)
    (case k_law => k_is)
    (case z_abs => k_is)
    (case z_all => k_is)
    (case z_enumerate => k_is)
    (case z_int => k_is)
    (case z_isinstance => k_is)
    (case z_len => k_is)
    (case z_list => k_is)
    (case z_range => k_is)
    (case z_repr => k_is)
    (case z_set => k_is)
    (case z_str => k_is)
    (case z_tuple => k_is)
    (case z_zip => k_is)
    (case x_FEWEST_LINES => k_is)
    (case x_FIGURES => k_is)
    (case x_HEADS => k_is)
    (case y_HEADS => k_is)
    (case w_HEADS => exact .cons ⟨_, rfl⟩ (.cons ⟨_, rfl⟩ (.nil)))
    (case v_HEADS => exact (sz64 rfl))
    (case x_LETTERS => k_is)
    (case x_LONGEST_NAME => k_is)
    (case x_MOST_FIGURES => k_is)
    (case x_MOST_LINES => k_is)
    (case x_NOTHING => k_is)
#print axioms PySem.Challenge.cw_lothouse_k84_texts_written_and_read_holds
