import PyProof.Rows.All
import Wide.All
import OpenK.AllK
import Wide.FinOn
import HandS.ForMost
import HandS.Wide
import HandS.Deep
import KE.KDictKeyed
import KE.SortData
import HandS.EndBits
import PyProof.ReprRoads
import KE.DataIsa
import Flt.Sum
import HandS.TupAny
import HandS.Zip
import HandS.Style
import KE.GoesEnum
import HandS.DictComp
import HandS.Conv
import HandS.IsInst
import HandS.Text
import HandS.Strs
import PyProof.CollectIter
import PyProof.WalksMore
import PyProof.ReprLen
import HandS.TupLe
import HandS.TupSets
import HandS.NoneIn
import PyProof.Rows.IntBool
import HandS.FStr
import HandS.SlotsOwn
import HandS.Codes
import HandS.Set
import HandS.SetFor
import KE.KDictPairs
import HandS.WordsExc
import HandS.TryOnly
import HandS.ExcIs
import HandS.More
import HandS.Lambda
import HandS.EndOwn
import KE.KDictDisplayH
import KE.KDictSum
import KE.DataMinMax
import KE.KDictZip
import HandS.SetKeys
import PySem.Challenge.RW_lothouse_k25_whole_borders_moved_and_par
set_option Elab.async false
set_option linter.all false
set_option maxRecDepth 100000
set_option maxHeartbeats 8000000
/-! A data layer over the hand layer: readings told by data, without addresses. -/
namespace DL
open PySem L2

/-! ### data at a value -/
def keyD : Key → PyData
  | .inl i => .int i
  | .inr x => .str x
mutual
/-- no list within -/
def noLst : PyData → Bool
  | .none | .bool _ | .int _ | .str _ => true
  | .list _ => false
  | .tuple xs => noLstA xs
  | .dict kvs => noLstK kvs
def noLstA : List PyData → Bool
  | [] => true
  | x :: xs => noLst x && noLstA xs
def noLstK : List (PyData × PyData) → Bool
  | [] => true
  | (_, v) :: r => noLst v && noLstK r
end
theorem noLstK_map : ∀ ds : List (Key × PyData), noLstK (ds.map fun q => (keyD q.1, q.2)) = noLstA (ds.map (·.2))
  | [] => by simp [noLstK, noLstA]
  | q :: ds => by simp [noLstK, noLstA, noLstK_map ds]
mutual
inductive Dt (K : PySem.W.Frag) (F : Hp) : V → PyData → Prop
  | non : Dt K F .non .none
  | bl (b : Bool) : Dt K F (.bl b) (.bool b)
  | int (i : Int) : Dt K F (.int i) (.int i)
  | str (x : Str) : Dt K F (.str x) (.str x)
  | lst {a : Addr} {xs : List V} {ds : List PyData} : F a = some (.lst xs) → DtAll K F xs ds → Dt K F (.ref a) (.list ds)
  | tup {a : Addr} {xs : List V} {ds : List PyData} : SqT K F a xs → DtAll K F xs ds → Dt K F (.ref a) (.tuple ds)
  | dct {a : Addr} {kvs : List (Key × V)} {ds : List (Key × PyData)} : F a = some (.dK kvs) → kvs.map (·.1) = ds.map (·.1) → DtAll K F (kvs.map (·.2)) (ds.map (·.2)) → Dt K F (.ref a) (.dict (ds.map fun q => (keyD q.1, q.2)))
inductive DtAll (K : PySem.W.Frag) (F : Hp) : List V → List PyData → Prop
  | nil : DtAll K F [] []
  | cons {v : V} {vs : List V} {d : PyData} {ds : List PyData} : Dt K F v d → DtAll K F vs ds → DtAll K F (v :: vs) (d :: ds)
end

section
variable {K : PySem.W.Frag} {F F' G H H' : Hp}
theorem same_new {q : Addr} {o : HO} (h : H q = none) : Same H (upd H q o) := fun b x e => by
  rw [upd_ne (ne_of_none e h)]
  exact e
theorem same_t {a : Addr} {xs : List V} (e : Same F F') (h : SqT K F a xs) : SqT K F' a xs := by
  rcases h with (h | ⟨o, h⟩) | h
  · exact .inl (.inl (e _ _ h))
  · exact .inl (.inr ⟨o, e _ _ h⟩)
  · exact .inr h
theorem Dt.mono (e : Same F F') {v : V} {d : PyData} (h : Dt K F v d) : Dt K F' v d :=
  Dt.rec (motive_1 := fun v d _ => Dt K F' v d) (motive_2 := fun vs ds _ => DtAll K F' vs ds) .non .bl .int .str (fun h _ ih => .lst (e _ _ h) ih) (fun h _ ih => .tup (same_t e h) ih) (fun h k _ ih => .dct (e _ _ h) k ih) .nil (fun _ _ i j => .cons i j) h
theorem DtAll.mono (e : Same F F') : ∀ {vs : List V} {ds : List PyData}, DtAll K F vs ds → DtAll K F' vs ds
  | _, _, .nil => .nil
  | _, _, .cons h t => .cons (h.mono e) (DtAll.mono e t)
theorem Dt.dp {v : V} {d : PyData} (h : Dt K F v d) : d.hasDict = false → Dp K F v d :=
  Dt.rec (motive_1 := fun v d _ => d.hasDict = false → Dp K F v d) (motive_2 := fun vs ds _ => PyData.hasDictAll ds = false → DpAll K F vs ds) (fun _ => .non) (fun b _ => .bl b) (fun i _ => .int i) (fun x _ => .str x)
    (fun h _ ih n => .lst (.inl (.inl h)) (ih (by simpa only [PyData.hasDict] using n))) (fun h _ ih n => .tup h (ih (by simpa only [PyData.hasDict] using n))) (fun _ _ _ _ n => by simp only [PyData.hasDict] at n; cases n) (fun _ => .nil)
    (fun _ _ i j n => by
      simp only [PyData.hasDictAll, Bool.or_eq_false_iff] at n
      exact .cons (i n.1) (j n.2)) h
theorem nd_sh {d : PyData} (h : SeqAt.shaped d = true) : d.hasDict = false := by
  simp only [SeqAt.shaped, Bool.and_eq_true] at h
  exact PyData.hasDict_of_canLay d h.1
theorem nd_shT {ds : List PyData} (h : SeqAt.shaped (.tuple ds) = true) : (PyData.list ds).hasDict = false := by
  have := nd_sh h
  simpa only [PyData.hasDict] using this
theorem DtAll.length : ∀ {vs : List V} {ds : List PyData}, DtAll K F vs ds → vs.length = ds.length
  | _, _, .nil => rfl
  | _, _, .cons _ t => congrArg (· + 1) t.length
theorem DtAll.get : ∀ {vs : List V} {ds : List PyData} {i : Nat} {v : V}, DtAll K F vs ds → vs[i]? = some v → ∃ d, ds[i]? = some d ∧ Dt K F v d
  | _, _, _, _, .nil, e => by simp at e
  | _, _, 0, _, .cons h _, e => by simp at e; subst e; exact ⟨_, rfl, h⟩
  | _, _, i + 1, v, .cons _ t, e => by
    obtain ⟨d, h1, h2⟩ := DtAll.get (i := i) (v := v) t (by simpa using e)
    exact ⟨d, by simpa using h1, h2⟩
theorem DtAll.getD : ∀ {vs : List V} {ds : List PyData} {i : Nat} {d : PyData}, DtAll K F vs ds → ds[i]? = some d → ∃ v, vs[i]? = some v ∧ Dt K F v d
  | _, _, _, _, .nil, e => by simp at e
  | _, _, 0, _, .cons h _, e => by simp at e; subst e; exact ⟨_, rfl, h⟩
  | _, _, i + 1, d, .cons _ t, e => by
    obtain ⟨v, h1, h2⟩ := DtAll.getD (i := i) (d := d) t (by simpa using e)
    exact ⟨v, by simpa using h1, h2⟩
theorem DtAll.append : ∀ {vs ws : List V} {ds es : List PyData}, DtAll K F vs ds → DtAll K F ws es → DtAll K F (vs ++ ws) (ds ++ es)
  | _, _, _, _, .nil, s => s
  | _, _, _, _, .cons h t, s => .cons h (DtAll.append t s)
theorem DtAll.take : ∀ (n : Nat) {vs : List V} {ds : List PyData}, DtAll K F vs ds → DtAll K F (vs.take n) (ds.take n)
  | 0, _, _, _ => .nil
  | _ + 1, _, _, .nil => .nil
  | n + 1, _, _, .cons h t => .cons h (DtAll.take n t)
theorem DtAll.drop : ∀ (n : Nat) {vs : List V} {ds : List PyData}, DtAll K F vs ds → DtAll K F (vs.drop n) (ds.drop n)
  | 0, _, _, h => h
  | _ + 1, _, _, .nil => .nil
  | n + 1, _, _, .cons _ t => DtAll.drop n t

end
section
variable {X : Cx} {pins : List (Addr × Obj)} {σ : St} {H : Hp} {s : Shared}
theorem pairs_reads {P : Program} {w : World} {h : Heap} : ∀ {es : List DictEntry} {vs : List (Key × Value)} {kvs : List (Key × V)} {ds : List (Key × PyData)}, PySem.Pairs (mixKind P w) es vs → KV kvs vs → kvs.map (·.1) = ds.map (·.1) →
    ReadsAll h (es.map (·.key)) (ds.map fun q => keyD q.1) [] ∧ Vals (kvs.map (·.2)) (es.map (·.val))
  | _, _, _, [], .nil, .nil, _ => ⟨.nil, .nil⟩
  | _, _, _, [], .cons _ _ _, .cons _ _, e => by simp at e
  | _, _, _, q :: ds, .nil, .nil, e => by simp at e
  | _, _, _, q :: ds, .cons (e := en) h1 h2 t, .cons r rs, e => by
    simp only [List.map_cons, List.cons.injEq] at e
    obtain ⟨e1, e2⟩ := e
    obtain ⟨i1, i2⟩ := pairs_reads t rs e2
    have hk : keyIs q.1 en.key = true := by
      rw [← e1, r.1]
      exact h1
    refine ⟨?_, ?_⟩
    · show ReadsAll h (en.key :: _) (keyD q.1 :: _) ([] ++ [])
      refine .cons ?_ i1
      rcases keyIs_shape hk with ⟨i, u, hq, hv⟩ | ⟨x, u, hq, hv⟩
      · rw [hq, hv]; exact Reads.int i u
      · rw [hq, hv]; exact Reads.str x u
    · refine .cons ?_ i2
      show RelV _ en.val
      rw [h2]
      exact r.2
theorem Dt.reads (I : Inv X pins σ H s) {v : V} {d : PyData} {u : Value} (h : Dt X.K H v d) (r : RelV v u) : ∃ as, Reads s.heap u d as ∧ (H sysModules = none ∨ noLst d = true → sysModules ∉ as) := by
  refine Dt.rec (motive_1 := fun v d _ => ∀ u, RelV v u → ∃ as, Reads s.heap u d as ∧ (H sysModules = none ∨ noLst d = true → sysModules ∉ as)) (motive_2 := fun vs ds _ => ∀ us, Vals vs us → ∃ as, ReadsAll s.heap us ds as ∧ (H sysModules = none ∨ noLstA ds = true → sysModules ∉ as))
    ?_ ?_ ?_ ?_ ?_ ?_ ?_ ?_ ?_ h u r
  · intro u r
    cases r
    exact ⟨_, Reads.none, by simp⟩
  · intro b u r
    cases r
    exact ⟨_, Reads.bool b, by simp⟩
  · intro i u r
    obtain ⟨t, rfl⟩ := r
    exact ⟨_, Reads.int i t, by simp⟩
  · intro x u r
    obtain ⟨t, rfl⟩ := r
    exact ⟨_, Reads.str x t, by simp⟩
  · intro a xs ds h1 _ ih u r
    cases r
    obtain ⟨its, rv, ⟨o, n, ho, hc, _, hd⟩, _⟩ := I.list (.inl (.inl h1))
    obtain ⟨as, hr, hn⟩ := ih _ rv
    refine ⟨_, Reads.list ho hc hd hr, fun hs hm => ?_⟩
    rcases hs with hs | hs
    · rcases List.mem_cons.mp hm with e | hm
      · rw [e, h1] at hs
        cases hs
      · exact hn (.inl hs) hm
    · simp [noLst] at hs
  · intro a xs ds h1 _ ih u r
    cases r
    obtain ⟨its, rv, ⟨o, ho, hc, n, hd⟩, _⟩ := I.tuple h1
    obtain ⟨as, hr, hn⟩ := ih _ rv
    exact ⟨_, Reads.tuple ho hc hd hr, fun hs => hn (hs.imp id fun z => by simpa only [noLst] using z)⟩
  · intro a kvs ds h1 hk _ ih u r
    cases r
    obtain ⟨_, hne, vs, kv, o, es, ep, ho, hc, hd, _, hp, _⟩ := (show ObjOk X.prog X.w H s.heap a (.dK kvs) from I.hok _ _ h1)
    obtain ⟨r1, r2⟩ := pairs_reads (h := s.heap) hp kv hk
    obtain ⟨bs, hr, hn⟩ := ih _ r2
    have hne' : a ≠ sysModules := beq_eq_false_iff_ne.mp hne
    refine ⟨_, Reads.dict ho hc.1 hd (as := []) ?_ (bs := bs) ?_, fun hs hm => ?_⟩
    · rw [List.map_map]; exact r1
    · rw [List.map_map]; exact hr
    · rcases List.mem_cons.mp hm with e | hm
      · exact hne' e.symm
      · exact hn (hs.imp id fun z => by simpa only [noLst, noLstK_map] using z) hm
  · intro us r
    cases r
    exact ⟨_, ReadsAll.nil, by simp⟩
  · intro v vs d ds _ _ i1 i2 us r
    cases r with
    | cons r1 r2 =>
      obtain ⟨as, q1, n1⟩ := i1 _ r1
      obtain ⟨bs, q2, n2⟩ := i2 _ r2
      refine ⟨_, ReadsAll.cons q1 q2, fun hs hm => (List.mem_append.mp hm).elim (n1 (hs.imp id fun z => ?_)) (n2 (hs.imp id fun z => ?_))⟩
      · simp only [noLstA, Bool.and_eq_true] at z
        exact z.1
      · simp only [noLstA, Bool.and_eq_true] at z
        exact z.2
end
section
variable {K : PySem.W.Frag} {F F' G H H' : Hp}
/-! ### what stands in a slot -/
inductive SV where
  | no
  | dat (d : PyData)
  | ptr (a : Addr)
  | scr (ns : List Int)
  | bar (ds : List PyData)
def SR (K : PySem.W.Frag) (F : Hp) (v : V) : SV → Prop
  | .no => False
  | .dat d => Dt K F v d
  | .ptr a => v = .ref a
  | .scr ns => ∃ a, v = .ref a ∧ SqL K F a (ns.map V.int)
  | .bar ds => ∃ a o xs, v = .ref a ∧ F a = some (.frz o (.tup xs)) ∧ o.dict = none ∧ DtAll K F xs ds
def SO (K : PySem.W.Frag) (F : Hp) (o : Option V) (s : SV) : Prop := s = .no ∨ ∃ v, o = some v ∧ SR K F v s
abbrev SD (K : PySem.W.Frag) (F : Hp) : St → List SV → Prop := Paired (SO K F)
abbrev SRs (K : PySem.W.Frag) (F : Hp) : List V → List SV → Prop := Paired (SR K F)
theorem SR.mono (e : Same F F') {v : V} {s : SV} (h : SR K F v s) : SR K F' v s := by
  cases s with
  | no => exact h
  | dat d => exact Dt.mono e h
  | ptr a => exact h
  | scr ns =>
    obtain ⟨a, q, l⟩ := h
    exact ⟨a, q, e.seq l⟩
  | bar ds =>
    obtain ⟨a, o, xs, q, l, hd, r⟩ := h
    exact ⟨a, o, xs, q, e _ _ l, hd, r.mono e⟩
theorem SO.mono (e : Same F F') {o : Option V} {s : SV} (h : SO K F o s) : SO K F' o s := by
  rcases h with h | ⟨v, h, r⟩
  · exact .inl h
  · exact .inr ⟨v, h, r.mono e⟩
theorem SD.mono (e : Same F F') {σ : St} {S : List SV} (h : SD K F σ S) : SD K F' σ S := Paired.mono (fun _ _ q => SO.mono e q) h
theorem SRs.mono (e : Same F F') {vs : List V} {ss : List SV} (h : SRs K F vs ss) : SRs K F' vs ss := Paired.mono (fun _ _ q => SR.mono e q) h
theorem pget {α β : Type} {R : α → β → Prop} : ∀ {as : List α} {bs : List β} {i : Nat} {b : β}, Paired R as bs → bs[i]? = some b → ∃ a, as[i]? = some a ∧ R a b
  | _, _, _, _, .nil, e => by simp at e
  | _, _, 0, _, .cons h _, e => by simp at e; subst e; exact ⟨_, rfl, h⟩
  | _, _, i + 1, b, .cons _ t, e => by
    obtain ⟨a, h1, h2⟩ := pget (i := i) (b := b) t (by simpa using e)
    exact ⟨a, by simpa using h1, h2⟩
theorem pgetL {α β : Type} {R : α → β → Prop} : ∀ {as : List α} {bs : List β} {i : Nat} {a : α}, Paired R as bs → as[i]? = some a → ∃ b, bs[i]? = some b ∧ R a b
  | _, _, _, _, .nil, e => by simp at e
  | _, _, 0, _, .cons h _, e => by simp at e; subst e; exact ⟨_, rfl, h⟩
  | _, _, i + 1, a, .cons _ t, e => by
    obtain ⟨b, h1, h2⟩ := pgetL (i := i) (a := a) t (by simpa using e)
    exact ⟨b, by simpa using h1, h2⟩
theorem pset {α β : Type} {R : α → β → Prop} {a : α} {b : β} (r : R a b) : ∀ (i : Nat) {as : List α} {bs : List β}, Paired R as bs → Paired R (as.set i a) (bs.set i b)
  | _, _, _, .nil => .nil
  | 0, _, _, .cons _ t => .cons r t
  | i + 1, _, _, .cons q t => .cons q (pset r i t)
theorem papp {α β : Type} {R : α → β → Prop} : ∀ {as cs : List α} {bs ds : List β}, Paired R as bs → Paired R cs ds → Paired R (as ++ cs) (bs ++ ds)
  | _, _, _, _, .nil, s => s
  | _, _, _, _, .cons r t, s => .cons r (papp t s)
theorem SD.get {σ : St} {S : List SV} {i : Nat} {s : SV} (h : SD K F σ S) (e : S[i]? = some s) (n : s ≠ .no) : ∃ v, σ[i]? = some (some v) ∧ SR K F v s := by
  obtain ⟨o, h1, h2⟩ := pget h e
  rcases h2 with h2 | ⟨v, h2, r⟩
  · exact absurd h2 n
  · exact ⟨v, by rw [h1, h2], r⟩
theorem SD.put {σ : St} {S : List SV} {v : V} {s : SV} (h : SD K F σ S) (i : Nat) (r : SR K F v s) : SD K F (σ.set i (some v)) (S.set i s) := pset (.inr ⟨v, rfl, r⟩) i h
theorem SD.out {σ : St} {S : List SV} (h : SD K F σ S) (i : Nat) {o : Option V} : SD K F (σ.set i o) (S.set i .no) := pset (.inl rfl) i h
theorem SD.start (N : List Str) : ∀ {vs : List V} {ss : List SV}, SRs K F vs ss → SD K F (L2.start N vs) (ss ++ List.replicate (N.length - ss.length) .no) := by
  intro vs ss h
  have e : vs.length = ss.length := h.length
  show Paired (SO K F) (vs.map some ++ List.replicate (N.length - vs.length) none) _
  rw [e]
  refine papp ?_ ?_
  · induction h with
    | nil => exact .nil
    | cons r _ ih => exact .cons (.inr ⟨_, rfl, r⟩) (ih (by simpa using e))
  · generalize N.length - ss.length = n
    induction n with
    | zero => exact .nil
    | succ n ih => exact .cons (.inl rfl) ih

/-! ### what is owned -/
/-- an exception of the class cls, without own attributes -/
def ExZ (cls : Value) (a : Addr) : HO := .ext fun h => ∃ (oe : Obj) (vs : Array Value), h.get? a = some oe ∧ oe.cls = cls ∧ oe.dict = none ∧ oe.data = .fields vs
/-- a dict whose keys are tuples, nested: its entries -/
abbrev KX := List (NestedKey × Addr × V)
def KRel (x : NestedKey × Addr × V) (y : NestedKey × Addr × Value) : Prop := x.1 = y.1 ∧ x.2.1 = y.2.1 ∧ RelV x.2.2 y.2.2
def entN (w : World) (y : NestedKey × Addr × Value) : DictEntry := ⟨y.1.hash w, .ref y.2.1, y.2.2⟩
def KdP (w : World) (a : Addr) (xs : KX) (h : Heap) : Prop := xs.length ≤ sizeLine ∧ (a == sysModules) = false ∧ ∃ ys : List (NestedKey × Addr × Value), Paired KRel xs ys ∧ ∃ o es ep, h.get? a = some o ∧ o.ExactDict ∧ o.data = .dict es ep ∧ es.toList = ys.map (entN w) ∧ (ys.map (·.1)).Nodup
def KdO (w : World) (a : Addr) (xs : KX) : HO := .ext (KdP w a xs)
def KeysAt (K : PySem.W.Frag) (H : Hp) (xs : KX) : Prop := ∀ x ∈ xs, Dt K H (.ref x.2.1) x.1.data ∧ x.1.depth ≤ 8
theorem KeysAt.mono {xs : KX} (e : Same F F') (h : KeysAt K F xs) : KeysAt K F' xs := fun x hx => ⟨(h x hx).1.mono e, (h x hx).2⟩
inductive Cell where
  | kd (w : World) (kvs : List (NestedKey × SV))
  | exc (cls : Value)
  | tab (G : Addr → HO)
  | lst (xs : List SV)
  | dk (kvs : List (Key × SV))
  | dt (kvs : List (List Key × SV))
  | ins (C dx : Addr) (fs : List (Str × SV))
  | fk (o : Obj) (vs : List (Key × V)) (kvs : List (Key × SV))
def KVR {κ : Type} (K : PySem.W.Frag) (F : Hp) : List (κ × V) → List (κ × SV) → Prop := Paired fun (a : κ × V) (b : κ × SV) => a.1 = b.1 ∧ SR K F a.2 b.2
def CellAt (K : PySem.W.Frag) (F H : Hp) (p : Addr) : Cell → Prop
  | .lst xs => ∃ vs, H p = some (.lst vs) ∧ SRs K F vs xs
  | .dk kvs => ∃ vs, H p = some (.dK vs) ∧ KVR K F vs kvs
  | .dt kvs => ∃ vs, H p = some (.dT vs) ∧ KVR K F vs kvs
  | .ins C dx fs => ∃ vs, H p = some (.ins C dx vs) ∧ KVR K F vs fs
  | .kd w kvs => ∃ xs : KX, H p = some (KdO w p xs) ∧ KeysAt K F xs ∧ Paired (fun (x : NestedKey × Addr × V) (y : NestedKey × SV) => x.1 = y.1 ∧ SR K F x.2.2 y.2) xs kvs
  | .exc cls => H p = some (ExZ cls p)
  | .fk o vs kvs => H p = some (.frz o (.dK vs)) ∧ KVR K F vs kvs
  | .tab G => ∃ ps : Array Value, H p = some (.tbl ps) ∧ TriplesOk ps.toList ∧ ∀ (pos : Pos) (cv : Value), codeAmong pos ps.toList = some cv → ∃ c, cv = .ref c ∧ F c = some (G c)
theorem CellAt.mono {p : Addr} {c : Cell} (e : Same F F') (eh : H' p = H p) (h : CellAt K F H p c) : CellAt K F' H' p c := by
  cases c with
  | lst xs =>
    obtain ⟨vs, h1, h2⟩ := h
    exact ⟨vs, eh.trans h1, h2.mono e⟩
  | dk kvs =>
    obtain ⟨vs, h1, h2⟩ := h
    exact ⟨vs, eh.trans h1, Paired.mono (fun _ _ q => ⟨q.1, q.2.mono e⟩) h2⟩
  | dt kvs =>
    obtain ⟨vs, h1, h2⟩ := h
    exact ⟨vs, eh.trans h1, Paired.mono (fun _ _ q => ⟨q.1, q.2.mono e⟩) h2⟩
  | ins C dx fs =>
    obtain ⟨vs, h1, h2⟩ := h
    exact ⟨vs, eh.trans h1, Paired.mono (fun _ _ q => ⟨q.1, q.2.mono e⟩) h2⟩
  | kd w kvs =>
    obtain ⟨xs, h1, h2, h3⟩ := h
    exact ⟨xs, eh.trans h1, h2.mono e, Paired.mono (fun _ _ q => ⟨q.1, q.2.mono e⟩) h3⟩
  | exc cls => exact eh.trans h
  | fk o vs kvs => exact ⟨eh.trans h.1, Paired.mono (fun _ _ q => ⟨q.1, q.2.mono e⟩) h.2⟩
  | tab G =>
    obtain ⟨ps, h1, h2, h3⟩ := h
    exact ⟨ps, eh.trans h1, h2, fun pos cv hc => by
      obtain ⟨c, e1, e2⟩ := h3 pos cv hc
      exact ⟨c, e1, e _ _ e2⟩⟩
theorem CellAt.here {p : Addr} {c : Cell} (h : CellAt K F H p c) : H p ≠ none := by
  cases c with
  | exc cls =>
    have h : H p = some (ExZ cls p) := h
    rw [h]
    exact Option.some_ne_none _
  | fk o vs kvs =>
    rw [h.1]
    exact Option.some_ne_none _
  | _ =>
    obtain ⟨vs, h1, h2⟩ := h
    rw [h1]
    exact Option.some_ne_none _
/-- a block of objects of which more is known than what stands there now -/
structure Blk where
  cs : List Addr
  G : Hp → Hp → Prop
  ext : ∀ {F F' H H' : Hp}, Same F F' → (∀ c ∈ cs, H' c = H c) → G F H → G F' H'
  here : ∀ {F H : Hp} {c : Addr}, G F H → c ∈ cs → H c ≠ none
def Blk.nil : Blk := ⟨[], fun _ _ => True, fun _ _ h => h, fun _ h => by simp at h⟩
structure Amb where
  I : Blk
  cells : List (Addr × Cell)
abbrev Amb.add (A : Amb) (p : Addr) (c : Cell) : Amb := ⟨A.I, (p, c) :: A.cells⟩
structure At (K : PySem.W.Frag) (A : Amb) (F H : Hp) : Prop where
  same : Same F H
  blk : A.I.G F H
  bfree : ∀ c ∈ A.I.cs, F c = none
  cell : ∀ p c, (p, c) ∈ A.cells → F p = none ∧ p ∉ A.I.cs ∧ CellAt K F H p c
  nd : (A.cells.map (·.1)).Nodup
inductive Upd : List (Addr × Cell) → Addr → Cell → Cell → List (Addr × Cell) → Prop
  | head {p : Addr} {c c' : Cell} {l : List (Addr × Cell)} : Upd ((p, c) :: l) p c c' ((p, c') :: l)
  | tail {x : Addr × Cell} {p : Addr} {c c' : Cell} {l l' : List (Addr × Cell)} : Upd l p c c' l' → Upd (x :: l) p c c' (x :: l')
inductive Rem : List (Addr × Cell) → Addr → Cell → List (Addr × Cell) → Prop
  | head {p : Addr} {c : Cell} {l : List (Addr × Cell)} : Rem ((p, c) :: l) p c l
  | tail {x : Addr × Cell} {p : Addr} {c : Cell} {l l' : List (Addr × Cell)} : Rem l p c l' → Rem (x :: l) p c (x :: l')
theorem Upd.names : ∀ {l l' : List (Addr × Cell)} {p : Addr} {c c' : Cell}, Upd l p c c' l' → l'.map (·.1) = l.map (·.1)
  | _, _, _, _, _, .head => rfl
  | _, _, _, _, _, .tail t => by simp [t.names]
theorem Upd.mem : ∀ {l l' : List (Addr × Cell)} {p : Addr} {c c' : Cell}, Upd l p c c' l' → (p, c) ∈ l
  | _, _, _, _, _, .head => List.mem_cons_self
  | _, _, _, _, _, .tail t => List.mem_cons_of_mem _ t.mem
theorem Upd.new : ∀ {l l' : List (Addr × Cell)} {p : Addr} {c c' : Cell}, Upd l p c c' l' → (l.map (·.1)).Nodup → ∀ q d, (q, d) ∈ l' → (q = p ∧ d = c') ∨ (q ≠ p ∧ (q, d) ∈ l)
  | _, _, p, _, c', .head (l := l), nd, q, d, h => by
    rcases List.mem_cons.mp h with h1 | h1
    · cases h1
      exact .inl ⟨rfl, rfl⟩
    · refine .inr ⟨fun e => ?_, List.mem_cons_of_mem _ h1⟩
      have n1 := (List.nodup_cons.mp nd).1
      exact n1 (List.mem_map.mpr ⟨(q, d), h1, e⟩)
  | _, _, p, _, c', .tail (x := x) (l := l) t, nd, q, d, h => by
    rcases List.mem_cons.mp h with h | h
    · refine .inr ⟨fun e => ?_, by rw [h]; exact List.mem_cons_self⟩
      have n1 := (List.nodup_cons.mp nd).1
      refine n1 (List.mem_map.mpr ⟨(p, _), t.mem, ?_⟩)
      rw [← h]
      exact e.symm
    · rcases t.new (List.nodup_cons.mp nd).2 q d h with k | ⟨k1, k2⟩
      · exact .inl k
      · exact .inr ⟨k1, List.mem_cons_of_mem _ k2⟩
theorem Rem.mem : ∀ {l l' : List (Addr × Cell)} {p : Addr} {c : Cell}, Rem l p c l' → (p, c) ∈ l
  | _, _, _, _, .head => List.mem_cons_self
  | _, _, _, _, .tail t => List.mem_cons_of_mem _ t.mem
theorem Rem.sub : ∀ {l l' : List (Addr × Cell)} {p : Addr} {c : Cell}, Rem l p c l' → l'.Sublist l
  | _, _, _, _, .head => List.sublist_cons_self _ _
  | _, _, _, _, .tail t => List.Sublist.cons_cons _ t.sub
theorem Rem.ne : ∀ {l l' : List (Addr × Cell)} {p : Addr} {c : Cell}, Rem l p c l' → (l.map (·.1)).Nodup → ∀ q d, (q, d) ∈ l' → q ≠ p
  | _, _, p, _, .head (l := l), nd, q, d, h, e => by
    subst e
    exact (List.nodup_cons.mp nd).1 (List.mem_map.mpr ⟨(q, d), h, rfl⟩)
  | _, _, p, _, .tail (x := x) t, nd, q, d, h, e => by
    rcases List.mem_cons.mp h with h | h
    · subst e
      refine (List.nodup_cons.mp nd).1 (List.mem_map.mpr ⟨(q, _), t.mem, ?_⟩)
      rw [← h]
    · exact t.ne (List.nodup_cons.mp nd).2 q d h e
section
variable {A : Amb}
theorem At.alloc {q : Addr} {o : HO} (a : At K A F H) (h : H q = none) : At K A (upd F q o) (upd H q o) ∧ Same F (upd F q o) := by
  have fq : F q = none := a.same.free h
  have s : Same F (upd F q o) := same_new fq
  refine ⟨⟨fun b u e => ?_, ?_, fun c hc => ?_, fun p c hp => ?_, a.nd⟩, s⟩
  · unfold upd at e ⊢
    split at e
    · rename_i hb
      rw [if_pos hb]
      exact e
    · rename_i hb
      rw [if_neg hb]
      exact a.same b u e
  · refine A.I.ext s (fun c hc => upd_ne fun e => ?_) a.blk
    exact A.I.here a.blk hc (by rw [e]; exact h)
  · rw [upd_ne fun e => A.I.here a.blk hc (by rw [e]; exact h)]
    exact a.bfree c hc
  · obtain ⟨h1, h2, h3⟩ := a.cell p c hp
    have ne : p ≠ q := fun e => h3.here (by rw [e]; exact h)
    exact ⟨by rw [upd_ne ne]; exact h1, h2, h3.mono s (upd_ne ne)⟩
theorem At.new {q : Addr} {o : HO} {c : Cell} (a : At K A F H) (h : H q = none) (hc : CellAt K F (upd H q o) q c) : At K (A.add q c) F (upd H q o) := by
  have fq : F q = none := a.same.free h
  refine ⟨a.same.trans (same_new h), ?_, a.bfree, fun p d hp => ?_, ?_⟩
  · exact A.I.ext (Same.refl F) (fun c hc => upd_ne fun e => A.I.here a.blk hc (by rw [e]; exact h)) a.blk
  · rcases List.mem_cons.mp hp with hp | hp
    · cases hp
      exact ⟨fq, fun hq => A.I.here a.blk hq h, hc⟩
    · obtain ⟨h1, h2, h3⟩ := a.cell p d hp
      have ne : p ≠ q := fun e => h3.here (by rw [e]; exact h)
      exact ⟨h1, h2, h3.mono (Same.refl F) (upd_ne ne)⟩
  · refine List.nodup_cons.mpr ⟨fun hq => ?_, a.nd⟩
    obtain ⟨⟨p, d⟩, hp, e⟩ := List.mem_map.mp hq
    obtain ⟨h1, h2, h3⟩ := a.cell p d hp
    have e' : p = q := e
    exact h3.here (by rw [e']; exact h)
theorem At.put {p : Addr} {c c' : Cell} {o : HO} {l' : List (Addr × Cell)} (a : At K A F H) (u : Upd A.cells p c c' l') (hc : CellAt K F (upd H p o) p c') : At K ⟨A.I, l'⟩ F (upd H p o) := by
  obtain ⟨f1, f2, f3⟩ := a.cell p c u.mem
  refine ⟨fun b x e => ?_, ?_, a.bfree, fun q d hq => ?_, by rw [u.names]; exact a.nd⟩
  · rw [upd_ne (ne_of_none e f1)]
    exact a.same b x e
  · exact A.I.ext (Same.refl F) (fun c hc => upd_ne fun e => f2 (by rw [← e]; exact hc)) a.blk
  · rcases u.new a.nd q d hq with ⟨e1, e2⟩ | ⟨e1, e2⟩
    · subst e1; subst e2
      exact ⟨f1, f2, hc⟩
    · obtain ⟨h1, h2, h3⟩ := a.cell q d e2
      exact ⟨h1, h2, h3.mono (Same.refl F) (upd_ne e1)⟩
theorem At.drop {p : Addr} {c : Cell} {l' : List (Addr × Cell)} (a : At K A F H) (r : Rem A.cells p c l') : At K ⟨A.I, l'⟩ F H :=
  ⟨a.same, a.blk, a.bfree, fun q d hq => a.cell q d (r.sub.subset hq), (r.sub.map _).nodup a.nd⟩
theorem srs_dats : ∀ {vs : List V} {ds : List PyData}, SRs K F vs (ds.map .dat) → DtAll K F vs ds
  | _, [], h => by
    have h' : SRs K F _ [] := h
    cases h'
    exact .nil
  | _, d :: ds, h => by
    have h' : SRs K F _ (.dat d :: ds.map .dat) := h
    cases h' with
    | cons r t => exact .cons r (srs_dats t)
theorem dats_srs : ∀ {vs : List V} {ds : List PyData}, DtAll K F vs ds → SRs K F vs (ds.map .dat)
  | _, _, .nil => .nil
  | _, _, .cons h t => .cons h (dats_srs t)
/-- an owned list becomes data -/
theorem At.frz {p : Addr} {ds : List PyData} {l' : List (Addr × Cell)} (a : At K A F H) (r : Rem A.cells p (.lst (ds.map .dat)) l') : ∃ F', Same F F' ∧ At K ⟨A.I, l'⟩ F' H ∧ Dt K F' (.ref p) (.list ds) := by
  obtain ⟨f1, f2, vs, f3, f4⟩ := a.cell p _ r.mem
  have s : Same F (upd F p (.lst vs)) := same_new f1
  refine ⟨upd F p (.lst vs), s, ⟨fun b u e => ?_, A.I.ext s (fun _ _ => rfl) a.blk, fun c hc => ?_, fun q d hq => ?_, (r.sub.map _).nodup a.nd⟩, .lst upd_same ((srs_dats f4).mono s)⟩
  · unfold upd at e
    split at e
    · rename_i hb
      rw [hb, f3]
      exact e
    · exact a.same b u e
  · rw [upd_ne fun e => f2 (by rw [← e]; exact hc)]
    exact a.bfree c hc
  · obtain ⟨h1, h2, h3⟩ := a.cell q d (r.sub.subset hq)
    have ne : q ≠ p := r.ne a.nd q d hq
    exact ⟨by rw [upd_ne ne]; exact h1, h2, h3.mono s rfl⟩
end
end
end DL

/-! The data layer's judgements: what a reading wants, told by data; a frame of owned cells goes along unseen. -/
namespace DL
open PySem L2

abbrev KA := Amb → SV → Prop
abbrev KS := Amb → List SV → Prop
abbrev AtR (K : PySem.W.Frag) (A : Amb) (R : List (Addr × Cell)) (F H : Hp) : Prop := At K ⟨A.I, A.cells ++ R⟩ F H
def OutV (K : PySem.W.Frag) (R : List (Addr × Cell)) (F : Hp) (Q : VK) (k : KA) : Prop := ∀ A s v F' H', k A s → Same F F' → AtR K A R F' H' → SR K F' v s → Q v H'
def OutB (K : PySem.W.Frag) (R : List (Addr × Cell)) (F : Hp) (Q : Bool → Hp → Prop) (k : Amb → Bool → Prop) : Prop := ∀ A b F' H', k A b → Same F F' → AtR K A R F' H' → Q b H'
def OutL (K : PySem.W.Frag) (R : List (Addr × Cell)) (F : Hp) (Q : List V → Hp → Prop) (k : KS) : Prop := ∀ A ss vs F' H', k A ss → Same F F' → AtR K A R F' H' → SRs K F' vs ss → Q vs H'
def OutS (K : PySem.W.Frag) (R : List (Addr × Cell)) (F : Hp) (Q : St → Hp → Prop) (k : KS) : Prop := ∀ A S F' σ' H', k A S → Same F F' → AtR K A R F' H' → SD K F' σ' S → Q σ' H'
section
variable {K : PySem.W.Frag} {R : List (Addr × Cell)} {F F' : Hp}
theorem OutV.mono {Q : VK} {k : KA} (e : Same F F') (q : OutV K R F Q k) : OutV K R F' Q k := fun A s v F2 H2 hk e2 a r => q A s v F2 H2 hk (e.trans e2) a r
theorem OutB.mono {Q : Bool → Hp → Prop} {k : Amb → Bool → Prop} (e : Same F F') (q : OutB K R F Q k) : OutB K R F' Q k := fun A b F2 H2 hk e2 a => q A b F2 H2 hk (e.trans e2) a
theorem OutL.mono {Q : List V → Hp → Prop} {k : KS} (e : Same F F') (q : OutL K R F Q k) : OutL K R F' Q k := fun A s v F2 H2 hk e2 a r => q A s v F2 H2 hk (e.trans e2) a r
theorem OutS.mono {Q : St → Hp → Prop} {k : KS} (e : Same F F') (q : OutS K R F Q k) : OutS K R F' Q k := fun A s v F2 H2 hk e2 a r => q A s v F2 H2 hk (e.trans e2) a r
end
def Wp (K : PySem.W.Frag) (A : Amb) (te : TE) (S : List SV) (k : KA) : Prop := ∀ R F σ H Q, AtR K A R F H → SD K F σ S → OutV K R F Q k → te σ H Q
def WpT (K : PySem.W.Frag) (A : Amb) (tt : TT) (S : List SV) (k : Amb → Bool → Prop) : Prop := ∀ R F σ H Q, AtR K A R F H → SD K F σ S → OutB K R F Q k → tt σ H Q
def WpA (K : PySem.W.Frag) (A : Amb) (ta : TA) (S : List SV) (k : KS) : Prop := ∀ R F σ H Q, AtR K A R F H → SD K F σ S → OutL K R F Q k → ta σ H Q
def RW (K : PySem.W.Frag) (r : R2) (s1 s2 : SV) (A : Amb) (k : KA) : Prop := ∀ R F H v w Q, AtR K A R F H → SR K F v s1 → SR K F w s2 → OutV K R F Q k → r v w H Q
def UW (K : PySem.W.Frag) (r : V → Hp → VK → Prop) (s : SV) (A : Amb) (k : KA) : Prop := ∀ R F H v Q, AtR K A R F H → SR K F v s → OutV K R F Q k → r v H Q
def CW (K : PySem.W.Frag) (r : List V → Hp → VK → Prop) (ss : List SV) (A : Amb) (k : KA) : Prop := ∀ R F H vs Q, AtR K A R F H → SRs K F vs ss → OutV K R F Q k → r vs H Q
def GW (K : PySem.W.Frag) (g : TG) (s : SV) (S : List SV) (A : Amb) (k : KS) : Prop := ∀ R F σ H v Q, AtR K A R F H → SD K F σ S → SR K F v s → OutS K R F Q k → g v σ H Q
def GWs (K : PySem.W.Frag) (g : TGs) (ss : List SV) (S : List SV) (A : Amb) (k : KS) : Prop := ∀ R F σ H vs Q, AtR K A R F H → SD K F σ S → SRs K F vs ss → OutS K R F Q k → g vs σ H Q
structure DE where
  nx : KS
  bk : KS
  ct : KS
  rt : KA
@[reducible] def DE.seq (E : DE) (f : KS) : DE := ⟨f, E.bk, E.ct, E.rt⟩
@[reducible] def DE.loop (E : DE) (f : KS) : DE := ⟨f, E.nx, f, E.rt⟩
structure OutE (K : PySem.W.Frag) (R : List (Addr × Cell)) (F : Hp) (D : Ends) (E : DE) : Prop where
  nx : OutS K R F D.nx E.nx
  bk : OutS K R F D.bk E.bk
  ct : OutS K R F D.ct E.ct
  rt : OutV K R F D.rt E.rt
theorem OutE.mono {K : PySem.W.Frag} {R : List (Addr × Cell)} {F F' : Hp} {D : Ends} {E : DE} (e : Same F F') (o : OutE K R F D E) : OutE K R F' D E := ⟨o.nx.mono e, o.bk.mono e, o.ct.mono e, o.rt.mono e⟩
def Go (K : PySem.W.Frag) (A : Amb) (ts : TS) (S : List SV) (E : DE) : Prop := ∀ R F σ H D, AtR K A R F H → SD K F σ S → OutE K R F D E → ts D σ H

def datOf : SV → Option PyData
  | .dat d => some d
  | _ => none
def datsOf : List SV → Option (List PyData)
  | [] => some []
  | .dat d :: r => match datsOf r with
    | some ds => some (d :: ds)
    | none => none
  | _ :: _ => none
theorem datsOf_eq : ∀ {ss : List SV} {ds : List PyData}, datsOf ss = some ds → ss = ds.map .dat
  | [], ds, h => by
    have h' : some [] = some ds := h
    cases h'
    rfl
  | .dat d :: r, ds, h => by
    unfold datsOf at h
    cases e : datsOf r with
    | none => rw [e] at h; cases h
    | some es =>
      rw [e] at h
      cases h
      rw [datsOf_eq e]
      rfl
  | .no :: _, _, h => by cases h
  | .ptr _ :: _, _, h => by cases h
  | .scr _ :: _, _, h => by cases h
  | .bar _ :: _, _, h => by cases h

section
variable {K : PySem.W.Frag} {A A' : Amb} {S S' : List SV} {k k' : KA} {ta tb te : TE} {t u : TT} {r : R2} {s s1 s2 : SV}
theorem SR.noN {F : Hp} {v : V} (h : SR K F v s) : s ≠ .no := fun e => by subst e; exact h
theorem Wp.imp (h : Wp K A te S k) (i : ∀ A s, k A s → k' A s) : Wp K A te S k' := fun R F σ H Q a sd q => h R F σ H Q a sd fun A1 s v F1 H1 hk => q A1 s v F1 H1 (i _ _ hk)
theorem WpT.imp {k k' : Amb → Bool → Prop} (h : WpT K A t S k) (i : ∀ A b, k A b → k' A b) : WpT K A t S k' := fun R F σ H Q a sd q => h R F σ H Q a sd fun A1 b F1 H1 hk => q A1 b F1 H1 (i _ _ hk)

/-! ### expressions -/
theorem wp_var {i : Nat} (e : S[i]? = some s) (n : s ≠ .no) (h : k A s) : Wp K A (tVar i) S k := fun R F σ H Q a sd q => by
  obtain ⟨v, h1, h2⟩ := sd.get e n
  exact ⟨v, h1, q A s v F H h (Same.refl F) a h2⟩
theorem wp_vd {i : Nat} {d : PyData} (e : S[i]? = some (.dat d)) (h : k A (.dat d)) : Wp K A (tVar i) S k := wp_var e (by intro z; cases z) h
theorem wp_vp {i : Nat} {p : Addr} (e : S[i]? = some (.ptr p)) (h : k A (.ptr p)) : Wp K A (tVar i) S k := wp_var e (by intro z; cases z) h
theorem wp_vs {i : Nat} {ns : List Int} (e : S[i]? = some (.scr ns)) (h : k A (.scr ns)) : Wp K A (tVar i) S k := wp_var e (by intro z; cases z) h
theorem wp_c {v : V} {d : PyData} (hd : Dt K (fun _ => none) v d) (h : k A (.dat d)) : Wp K A (tC v) S k := fun R F σ H Q a sd q =>
  q A _ v F H h (Same.refl F) a (hd.mono fun _ _ z => by cases z)
theorem wp_ci {i : Int} (h : k A (.dat (.int i))) : Wp K A (tC (.int i)) S k := wp_c (.int i) h
theorem wp_cb {b : Bool} (h : k A (.dat (.bool b))) : Wp K A (tC (.bl b)) S k := wp_c (.bl b) h
theorem wp_cn (h : k A (.dat .none)) : Wp K A (tC .non) S k := wp_c .non h
theorem wp_cs {x : Str} (h : k A (.dat (.str x))) : Wp K A (tC (.str x)) S k := wp_c (.str x) h
theorem wp_op (h : Wp K A ta S fun A1 s1 => Wp K A1 tb S fun A2 s2 => RW K r s1 s2 A2 k) : Wp K A (tOp r ta tb) S k := fun R F σ H Q a sd q =>
  h R F σ H _ a sd fun A1 s1 v F1 H1 h1 e1 a1 r1 => h1 R F1 σ H1 _ a1 (sd.mono e1) fun A2 s2 w F2 H2 h2 e2 a2 r2 => h2 R F2 H2 v w Q a2 (r1.mono e2) r2 (q.mono (e1.trans e2))
theorem wp_un {r : V → Hp → VK → Prop} (h : Wp K A ta S fun A1 s1 => UW K r s1 A1 k) : Wp K A (tUn r ta) S k := fun R F σ H Q a sd q =>
  h R F σ H _ a sd fun A1 s1 v F1 H1 h1 e1 a1 r1 => h1 R F1 H1 v Q a1 r1 (q.mono e1)
theorem wpa_nil {k : KS} (h : k A []) : WpA K A tNil S k := fun R F σ H Q a sd q => q A [] [] F H h (Same.refl F) a .nil
theorem wpa_cons {tr : TA} {k : KS} (h : Wp K A te S fun A1 s => WpA K A1 tr S fun A2 ss => k A2 (s :: ss)) : WpA K A (tCons te tr) S k := fun R F σ H Q a sd q =>
  h R F σ H _ a sd fun A1 s1 v F1 H1 h1 e1 a1 r1 => h1 R F1 σ H1 _ a1 (sd.mono e1) fun A2 ss vs F2 H2 h2 e2 a2 r2 => q A2 _ _ F2 H2 h2 (e1.trans e2) a2 (.cons (r1.mono e2) r2)
theorem wp_cb_call {r : List V → Hp → VK → Prop} {ta : TA} (h : WpA K A ta S fun A1 ss => CW K r ss A1 k) : Wp K A (tCB r ta) S k := fun R F σ H Q a sd q =>
  h R F σ H _ a sd fun A1 ss vs F1 H1 h1 e1 a1 r1 => h1 R F1 H1 vs Q a1 r1 (q.mono e1)
theorem AtR.alloc {R : List (Addr × Cell)} {F H : Hp} {q : Addr} {o : HO} (a : AtR K A R F H) (h : H q = none) : AtR K A R (upd F q o) (upd H q o) ∧ Same F (upd F q o) := At.alloc a h
theorem AtR.new {R : List (Addr × Cell)} {F H : Hp} {q : Addr} {o : HO} {c : Cell} (a : AtR K A R F H) (h : H q = none) (hc : CellAt K F (upd H q o) q c) : AtR K (A.add q c) R F (upd H q o) := At.new (A := ⟨A.I, A.cells ++ R⟩) a h hc
theorem wp_tup {ta : TA} (h : WpA K A ta S fun A1 ss => ∃ ds, datsOf ss = some ds ∧ ds.length ≤ sizeLine ∧ k A1 (.dat (.tuple ds))) : Wp K A (tTup ta) S k := fun R F σ H Q a sd q =>
  h R F σ H _ a sd fun A1 ss vs F1 H1 ⟨ds, h1, h2, h3⟩ e1 a1 r1 => by
    rw [datsOf_eq h1] at r1
    have rd := srs_dats r1
    refine ⟨by rw [rd.length]; exact h2, fun p hp => ?_⟩
    obtain ⟨a2, e2⟩ := a1.alloc (o := .tup vs) hp
    exact q A1 _ _ _ _ h3 (e1.trans e2) a2 (.tup (SqT.of upd_same) (rd.mono e2))
/-- a new list, as data -/
theorem wp_lst {ta : TA} (h : WpA K A ta S fun A1 ss => ∃ ds, datsOf ss = some ds ∧ ds.length ≤ sizeLine ∧ k A1 (.dat (.list ds))) : Wp K A (tLst ta) S k := fun R F σ H Q a sd q =>
  h R F σ H _ a sd fun A1 ss vs F1 H1 ⟨ds, h1, h2, h3⟩ e1 a1 r1 => by
    rw [datsOf_eq h1] at r1
    have rd := srs_dats r1
    refine ⟨by rw [rd.length]; exact h2, fun p hp => ?_⟩
    obtain ⟨a2, e2⟩ := a1.alloc (o := .lst vs) hp
    exact q A1 _ _ _ _ h3 (e1.trans e2) a2 (.lst upd_same (rd.mono e2))
/-- a new list, one's own -/
theorem wp_lstO {ta : TA} (h : WpA K A ta S fun A1 ss => ss.length ≤ sizeLine ∧ ∀ p, k (A1.add p (.lst ss)) (.ptr p)) : Wp K A (tLst ta) S k := fun R F σ H Q a sd q =>
  h R F σ H _ a sd fun A1 ss vs F1 H1 ⟨h1, h2⟩ e1 a1 r1 => by
    refine ⟨by rw [r1.length]; exact h1, fun p hp => ?_⟩
    exact q _ _ _ _ _ (h2 p) e1 (a1.new hp ⟨vs, upd_same, r1⟩) rfl
theorem Rem.app {l l' R : List (Addr × Cell)} {p : Addr} {c : Cell} (h : Rem l p c l') : Rem (l ++ R) p c (l' ++ R) := by
  induction h with
  | head => exact .head
  | tail _ ih => exact .tail ih
/-- an owned list that a reading leaves becomes data -/
theorem wp_frz (h : Wp K A te S fun A1 s => ∃ p ds l', s = .ptr p ∧ Rem A1.cells p (.lst (ds.map .dat)) l' ∧ k ⟨A1.I, l'⟩ (.dat (.list ds))) : Wp K A te S k := fun R F σ H Q a sd q =>
  h R F σ H _ a sd fun A1 s v F1 H1 ⟨p, ds, l', hs, hr, hk⟩ e1 a1 r1 => by
    subst hs
    obtain rfl : v = .ref p := r1
    obtain ⟨F2, e2, a2, d2⟩ := At.frz (A := ⟨A1.I, A1.cells ++ R⟩) a1 hr.app
    exact q _ _ _ _ _ hk (e1.trans e2) a2 d2
theorem Upd.app {l l' R : List (Addr × Cell)} {p : Addr} {c c' : Cell} (h : Upd l p c c' l') : Upd (l ++ R) p c c' (l' ++ R) := by
  induction h with
  | head => exact .head
  | tail _ ih => exact .tail ih
theorem AtR.cell {R : List (Addr × Cell)} {F H : Hp} {p : Addr} {c : Cell} (a : AtR K A R F H) (h : (p, c) ∈ A.cells) : CellAt K F H p c := (At.cell a p c (List.mem_append_left _ h)).2.2
theorem AtR.put {R : List (Addr × Cell)} {F H : Hp} {p : Addr} {c c' : Cell} {o : HO} {l' : List (Addr × Cell)} (a : AtR K A R F H) (u : Upd A.cells p c c' l') (hc : CellAt K F (upd H p o) p c') : AtR K ⟨A.I, l'⟩ R F (upd H p o) := At.put (A := ⟨A.I, A.cells ++ R⟩) a u.app hc
theorem AtR.drop {R : List (Addr × Cell)} {F H : Hp} {p : Addr} {c : Cell} {l' : List (Addr × Cell)} (a : AtR K A R F H) (u : Rem A.cells p c l') : AtR K ⟨A.I, l'⟩ R F H := At.drop (A := ⟨A.I, A.cells ++ R⟩) a u.app
/-- an owned object that is left behind -/
theorem wp_drop (h : Wp K A te S fun A1 s => ∃ p c l', Rem A1.cells p c l' ∧ k ⟨A1.I, l'⟩ s) : Wp K A te S k := fun R F σ H Q a sd q =>
  h R F σ H _ a sd fun A1 s v F1 H1 ⟨p, c, l', hr, hk⟩ e1 a1 r1 => q _ _ _ _ _ hk e1 (a1.drop hr) r1

theorem wp_if (h : WpT K A t S fun A1 b => (b = true → Wp K A1 ta S k) ∧ (b = false → Wp K A1 tb S k)) : Wp K A (tIf t ta tb) S k := fun R F σ H Q a sd q =>
  h R F σ H _ a sd fun A1 b F1 H1 h1 e1 a1 => by
    cases b with
    | true => exact h1.1 rfl R F1 σ H1 Q a1 (sd.mono e1) (q.mono e1)
    | false => exact h1.2 rfl R F1 σ H1 Q a1 (sd.mono e1) (q.mono e1)
theorem sr_bl {F : Hp} {v : V} {b : Bool} (h : SR K F v (.dat (.bool b))) : v = .bl b := by
  have h' : Dt K F v (.bool b) := h
  cases h'
  rfl
theorem sr_int {F : Hp} {v : V} {b : Int} (h : SR K F v (.dat (.int b))) : v = .int b := by
  have h' : Dt K F v (.int b) := h
  cases h'
  rfl
theorem sr_str {F : Hp} {v : V} {b : Str} (h : SR K F v (.dat (.str b))) : v = .str b := by
  have h' : Dt K F v (.str b) := h
  cases h'
  rfl
theorem sr_non {F : Hp} {v : V} (h : SR K F v (.dat .none)) : v = .non := by
  have h' : Dt K F v .none := h
  cases h'
  rfl
theorem sr_lst {F : Hp} {v : V} {ds : List PyData} (h : SR K F v (.dat (.list ds))) : ∃ a xs, v = .ref a ∧ F a = some (.lst xs) ∧ DtAll K F xs ds := by
  have h' : Dt K F v (.list ds) := h
  cases h' with
  | lst h1 h2 => exact ⟨_, _, rfl, h1, h2⟩
theorem sr_tup {F : Hp} {v : V} {ds : List PyData} (h : SR K F v (.dat (.tuple ds))) : ∃ a xs, v = .ref a ∧ SqT K F a xs ∧ DtAll K F xs ds := by
  have h' : Dt K F v (.tuple ds) := h
  cases h' with
  | tup h1 h2 => exact ⟨_, _, rfl, h1, h2⟩

/-! ### tests -/
theorem wpt_test {k : Amb → Bool → Prop} (h : Wp K A te S fun A1 s => ∃ b, s = .dat (.bool b) ∧ k A1 b) : WpT K A (tTest te) S k := fun R F σ H Q a sd q =>
  h R F σ H _ a sd fun A1 s v F1 H1 ⟨b, hb, hk⟩ e1 a1 r1 => by
    subst hb
    exact ⟨b, sr_bl r1, q A1 b F1 H1 hk e1 a1⟩
theorem wpt_b {k : Amb → Bool → Prop} (h : Wp K A te S fun A1 s => ∃ b, s = .dat (.bool b) ∧ k A1 b) : WpT K A (tB te) S k := fun R F σ H Q a sd q =>
  h R F σ H _ a sd fun A1 s v F1 H1 ⟨b, hb, hk⟩ e1 a1 r1 => by
    subst hb
    exact ⟨b, sr_bl r1, q A1 b F1 H1 hk e1 a1⟩
theorem wpt_and {k : Amb → Bool → Prop} (h : WpT K A t S fun A1 b => (b = true → WpT K A1 u S k) ∧ (b = false → k A1 false)) : WpT K A (tAnd t u) S k := fun R F σ H Q a sd q =>
  h R F σ H _ a sd fun A1 b F1 H1 h1 e1 a1 => by
    cases b with
    | true => exact h1.1 rfl R F1 σ H1 Q a1 (sd.mono e1) (q.mono e1)
    | false => exact q A1 false F1 H1 (h1.2 rfl) e1 a1
theorem wpt_or {k : Amb → Bool → Prop} (h : WpT K A t S fun A1 b => (b = true → k A1 true) ∧ (b = false → WpT K A1 u S k)) : WpT K A (tOr t u) S k := fun R F σ H Q a sd q =>
  h R F σ H _ a sd fun A1 b F1 H1 h1 e1 a1 => by
    cases b with
    | true => exact q A1 true F1 H1 (h1.1 rfl) e1 a1
    | false => exact h1.2 rfl R F1 σ H1 Q a1 (sd.mono e1) (q.mono e1)
theorem wpt_not {k : Amb → Bool → Prop} (h : WpT K A t S fun A1 b => k A1 (!b)) : WpT K A (tNot t) S k := fun R F σ H Q a sd q =>
  h R F σ H _ a sd fun A1 b F1 H1 h1 e1 a1 => q A1 (!b) F1 H1 h1 e1 a1
theorem wpt_yes {k : Amb → Bool → Prop} (h : k A true) : WpT K A tYes S k := fun R F σ H Q a sd q => q A true F H h (Same.refl F) a
theorem wp_andV (h : Wp K A ta S fun A1 s => ∃ b, s = .dat (.bool b) ∧ (b = true → Wp K A1 tb S k) ∧ (b = false → k A1 (.dat (.bool false)))) : Wp K A (tAndV ta tb) S k := fun R F σ H Q a sd q =>
  h R F σ H _ a sd fun A1 s v F1 H1 ⟨b, hb, h1⟩ e1 a1 r1 => by
    subst hb
    refine ⟨b, sr_bl r1, ?_⟩
    cases b with
    | true => exact h1.1 rfl R F1 σ H1 Q a1 (sd.mono e1) (q.mono e1)
    | false => exact q A1 _ _ F1 H1 (h1.2 rfl) e1 a1 (.bl false)
theorem wp_orV (h : Wp K A ta S fun A1 s => ∃ b, s = .dat (.bool b) ∧ (b = true → k A1 (.dat (.bool true))) ∧ (b = false → Wp K A1 tb S k)) : Wp K A (tOrV ta tb) S k := fun R F σ H Q a sd q =>
  h R F σ H _ a sd fun A1 s v F1 H1 ⟨b, hb, h1⟩ e1 a1 r1 => by
    subst hb
    refine ⟨b, sr_bl r1, ?_⟩
    cases b with
    | true => exact q A1 _ _ F1 H1 (h1.1 rfl) e1 a1 (.bl true)
    | false => exact h1.2 rfl R F1 σ H1 Q a1 (sd.mono e1) (q.mono e1)
theorem wp_notV (h : Wp K A ta S fun A1 s => ∃ b, s = .dat (.bool b) ∧ k A1 (.dat (.bool (!b)))) : Wp K A (tNotV ta) S k := fun R F σ H Q a sd q =>
  h R F σ H _ a sd fun A1 s v F1 H1 ⟨b, hb, h1⟩ e1 a1 r1 => by
    subst hb
    exact ⟨b, sr_bl r1, q A1 _ _ F1 H1 h1 e1 a1 (.bl _)⟩

/-! ### targets -/
theorem gw_name {i : Nat} {k : KS} (h : k A (S.set i s)) : GW K (gName i) s S A k := fun R F σ H v Q a sd r q => q A _ F _ H h (Same.refl F) a (sd.put i r)
theorem gws_nil {k : KS} (h : k A S) : GWs K gNil [] S A k := fun R F σ H vs Q a sd r q => by
  cases r
  exact ⟨rfl, q A S F σ H h (Same.refl F) a sd⟩
theorem gws_cons {g : TG} {u : TGs} {ss : List SV} {k : KS} (h : GW K g s S A fun A1 S1 => GWs K u ss S1 A1 k) : GWs K (gCons g u) (s :: ss) S A k := fun R F σ H vs Q a sd r q => by
  cases r with
  | cons r1 r2 =>
    exact ⟨_, _, rfl, h R F σ H _ _ a sd r1 fun A1 S1 F1 σ1 H1 h1 e1 a1 sd1 => h1 R F1 σ1 H1 _ Q a1 sd1 (SRs.mono e1 r2) (q.mono e1)⟩
theorem gw_tup {n : Nat} {u : TGs} {ds : List PyData} {k : KS} (hn : ds.length = n) (h : GWs K u (ds.map .dat) S A k) : GW K (gTup K n u) (.dat (.tuple ds)) S A k := fun R F σ H v Q a sd r q => by
  obtain ⟨p, xs, rfl, h1, h2⟩ := sr_tup r
  exact ⟨p, xs, rfl, same_t a.same h1, by rw [h2.length]; exact hn, h R F σ H xs Q a sd (dats_srs h2) q⟩

/-! ### statements -/
variable {E : DE} {tu tw : TS}
theorem go_seq (h : Go K A tu S (E.seq fun A1 S1 => Go K A1 tw S1 E)) : Go K A (tSeq tu tw) S E := fun R F σ H D a sd o =>
  h R F σ H _ a sd ⟨fun A1 S1 F1 σ1 H1 h1 e1 a1 sd1 => h1 R F1 σ1 H1 D a1 sd1 (o.mono e1), o.bk, o.ct, o.rt⟩
theorem go_next (h : E.nx A S) : Go K A tNext S E := fun R F σ H D a sd o => o.nx A S F σ H h (Same.refl F) a sd
theorem go_break (h : E.bk A S) : Go K A tBreak S E := fun R F σ H D a sd o => o.bk A S F σ H h (Same.refl F) a sd
theorem go_cont (h : E.ct A S) : Go K A tCont S E := fun R F σ H D a sd o => o.ct A S F σ H h (Same.refl F) a sd
theorem go_drop (h : Wp K A te S fun A1 _ => E.nx A1 S) : Go K A (tDrop te) S E := fun R F σ H D a sd o =>
  h R F σ H _ a sd fun A1 s v F1 H1 h1 e1 a1 _ => o.nx A1 S F1 σ H1 h1 e1 a1 (sd.mono e1)
theorem go_ret (h : Wp K A te S E.rt) : Go K A (tRet te) S E := fun R F σ H D a sd o => h R F σ H _ a sd o.rt
theorem go_retN (h : E.rt A (.dat .none)) : Go K A tRetN S E := fun R F σ H D a sd o => o.rt A _ _ F H h (Same.refl F) a .non
theorem go_if (h : WpT K A t S fun A1 b => (b = true → Go K A1 tu S E) ∧ (b = false → Go K A1 tw S E)) : Go K A (tIfS t tu tw) S E := fun R F σ H D a sd o =>
  h R F σ H _ a sd fun A1 b F1 H1 h1 e1 a1 => by
    cases b with
    | true => exact h1.1 rfl R F1 σ H1 D a1 (sd.mono e1) (o.mono e1)
    | false => exact h1.2 rfl R F1 σ H1 D a1 (sd.mono e1) (o.mono e1)
theorem go_asg {g : TG} (h : Wp K A te S fun A1 s => GW K g s S A1 E.nx) : Go K A (tAsg te g) S E := fun R F σ H D a sd o =>
  h R F σ H _ a sd fun A1 s v F1 H1 h1 e1 a1 r1 => h1 R F1 σ H1 v _ a1 (sd.mono e1) r1 (o.nx.mono e1)
/-- name = e -/
theorem go_set {i : Nat} (h : Wp K A te S fun A1 s => E.nx A1 (S.set i s)) : Go K A (tAsg te (gName i)) S E := go_asg (h.imp fun _ _ q => gw_name q)
theorem go_par {i j : Nat} {ta : TA} (h : WpA K A ta S fun A1 ss => ∃ a b, ss = [a, b] ∧ E.nx A1 ((S.set i a).set j b)) : Go K A (tPar i j ta) S E := fun R F σ H D a sd o =>
  h R F σ H _ a sd fun A1 ss vs F1 H1 ⟨x, y, hs, hk⟩ e1 a1 r1 => by
    subst hs
    cases r1 with
    | cons q1 r2 =>
      cases r2 with
      | cons q2 r3 =>
        cases r3
        exact ⟨_, _, rfl, o.nx _ _ _ _ _ hk e1 a1 (((sd.mono e1).put i q1).put j q2)⟩
theorem go_aug {i : Nat} {f : Int → Int → Int} {x : Int} (e : S[i]? = some (.dat (.int x))) (h : Wp K A te S fun A1 s => ∃ y, s = .dat (.int y) ∧ E.nx A1 (S.set i (.dat (.int (f x y))))) : Go K A (tAug i te (ipI f)) S E := fun R F σ H D a sd o => by
  obtain ⟨v, h1, h2⟩ := sd.get e (by intro z; cases z)
  obtain rfl := sr_int h2
  refine ⟨.int x, h1, h R F σ H _ a sd fun A1 s w F1 H1 ⟨y, hs, hk⟩ e1 a1 r1 => ?_⟩
  subst hs
  obtain rfl := sr_int r1
  exact ⟨x, y, rfl, rfl, o.nx _ _ _ _ _ hk e1 a1 ((sd.mono e1).put i (.int _))⟩
/-- what is known of a slot may be turned: an owned list becomes data -/
theorem go_frz {i : Nat} {p : Addr} {ds : List PyData} {l' : List (Addr × Cell)} (e : S[i]? = some (.ptr p)) (hr : Rem A.cells p (.lst (ds.map .dat)) l') (h : Go K ⟨A.I, l'⟩ tu (S.set i (.dat (.list ds))) E) : Go K A tu S E := fun R F σ H D a sd o => by
  obtain ⟨v, h1, h2⟩ := sd.get e (by intro z; cases z)
  obtain rfl : v = .ref p := h2
  obtain ⟨F2, e2, a2, d2⟩ := At.frz (A := ⟨A.I, A.cells ++ R⟩) a hr.app
  have sd2 := (sd.mono e2).put i (s := .dat (.list ds)) d2
  have es : σ.set i (some (.ref p)) = σ := by
    refine List.ext_getElem? fun j => ?_
    by_cases hj : i = j
    · subst hj
      rw [List.getElem?_set_self (List.getElem?_eq_some_iff.mp h1).1]
      exact h1.symm
    · rw [List.getElem?_set_ne hj]
  rw [es] at sd2
  exact h R F2 σ H D a2 sd2 (o.mono e2)
theorem go_loss {p : Addr} {c : Cell} {l' : List (Addr × Cell)} (hr : Rem A.cells p c l') (h : Go K ⟨A.I, l'⟩ tu S E) : Go K A tu S E := fun R F σ H D a sd o => h R F σ H D (a.drop hr) sd o
end
end DL

/-! The data layer: what loops walk, loops, comprehensions, defs. -/
namespace DL
open PySem L2

/-- what an iterator yields, turn by turn -/
def Src (K : PySem.W.Frag) (F : Hp) (J : It) (xs : List SV) : Prop := ∀ A F' H i, Same F F' → At K A F' H →
  (xs.length ≤ i → J.stop i H) ∧ (∀ s, xs[i]? = some s → J.go i H ∧ ∀ x H', J.yld i H x H' → ∃ F'', Same F' F'' ∧ At K A F'' H' ∧ SR K F'' x s)
def IW (K : PySem.W.Frag) (A : Amb) (wi : TI) (S : List SV) (k : KS) : Prop := ∀ R F σ H Q, AtR K A R F H → SD K F σ S →
  (∀ A1 xs F1 H1 J, k A1 xs → Same F F1 → AtR K A1 R F1 H1 → Src K F1 J xs → Q J H1) → wi σ H Q
def irange (lo : Int) (n : Nat) : List SV := (List.range n).map fun (i : Nat) => .dat (.int (lo + i))
theorem irange_length (lo : Int) (n : Nat) : (irange lo n).length = n := by simp [irange]
theorem irange_get {lo : Int} {n i : Nat} {s : SV} (h : (irange lo n)[i]? = some s) : i < n ∧ s = .dat (.int (lo + i)) := by
  have hi : i < n := by
    have := (List.getElem?_eq_some_iff.mp h).1
    rwa [irange_length] at this
  refine ⟨hi, ?_⟩
  unfold irange at h
  rw [List.getElem?_map, List.getElem?_range hi] at h
  exact (Option.some.inj h).symm
section
variable {K : PySem.W.Frag} {A A' : Amb} {S S' : List SV} {ta tb te tl : TE} {t u : TT} {s s1 s2 : SV} {E : DE} {tu tw : TS} {g : TG} {wi wi1 : TI}
theorem src_list {F : Hp} {a : Addr} {xs : List V} {ss : List SV} (h : SqL K F a xs) (r : SRs K F xs ss) : Src K F (Itl K a) ss := fun A F' H i e at' => by
  have hH : SqL K H a xs := (e.trans at'.same).seq h
  refine ⟨fun hi => ⟨xs, hH, by rw [r.length]; exact hi⟩, fun s hs => ?_⟩
  obtain ⟨v, h1, h2⟩ := pget r hs
  refine ⟨⟨xs, v, hH, h1⟩, fun x H' y => ?_⟩
  obtain ⟨rfl, y⟩ := y
  have q := y xs hH
  rw [h1] at q
  cases q
  exact ⟨F', Same.refl F', at', h2.mono e⟩
theorem src_tup {F : Hp} {a : Addr} {xs : List V} {ss : List SV} (h : SqT K F a xs) (r : SRs K F xs ss) : Src K F (Itt K a) ss := fun A F' H i e at' => by
  have hH : SqT K H a xs := same_t (e.trans at'.same) h
  refine ⟨fun hi => ⟨xs, hH, by rw [r.length]; exact hi⟩, fun s hs => ?_⟩
  obtain ⟨v, h1, h2⟩ := pget r hs
  refine ⟨⟨xs, v, hH, h1⟩, fun x H' y => ?_⟩
  obtain ⟨rfl, y⟩ := y
  have q := y xs hH
  rw [h1] at q
  cases q
  exact ⟨F', Same.refl F', at', h2.mono e⟩
theorem iw_list {k : KS} (h : Wp K A tl S fun A1 s => ∃ ds, s = .dat (.list ds) ∧ k A1 (ds.map .dat)) : IW K A (iList K tl) S k := fun R F σ H Q a sd q =>
  h R F σ H _ a sd fun A1 s v F1 H1 ⟨ds, hs, hk⟩ e1 a1 r1 => by
    subst hs
    obtain ⟨p, xs, rfl, h1, h2⟩ := sr_lst r1
    exact ⟨p, rfl, ⟨xs, .inl (.inl (a1.same _ _ h1))⟩, q A1 _ F1 H1 _ hk e1 a1 (src_list (.inl (.inl h1)) (dats_srs h2))⟩
theorem ints_srs {F : Hp} : ∀ ns : List Int, SRs K F (ns.map V.int) (ns.map fun n => SV.dat (.int n))
  | [] => .nil
  | _ :: ns => .cons (.int _) (ints_srs ns)
theorem iw_scr {k : KS} (h : Wp K A tl S fun A1 s => ∃ ns, s = .scr ns ∧ k A1 (ns.map fun n => .dat (.int n))) : IW K A (iList K tl) S k := fun R F σ H Q a sd q =>
  h R F σ H _ a sd fun A1 s v F1 H1 ⟨ns, hs, hk⟩ e1 a1 r1 => by
    subst hs
    obtain ⟨p, rfl, h1⟩ := r1
    exact ⟨p, rfl, ⟨_, a1.same.seq h1⟩, q A1 _ F1 H1 _ hk e1 a1 (src_list h1 (ints_srs ns))⟩
theorem iw_tup {k : KS} (h : Wp K A tl S fun A1 s => ∃ ds, s = .dat (.tuple ds) ∧ k A1 (ds.map .dat)) : IW K A (iTup K tl) S k := fun R F σ H Q a sd q =>
  h R F σ H _ a sd fun A1 s v F1 H1 ⟨ds, hs, hk⟩ e1 a1 r1 => by
    subst hs
    obtain ⟨p, xs, rfl, h1, h2⟩ := sr_tup r1
    exact ⟨p, rfl, ⟨xs, same_t a1.same h1⟩, q A1 _ F1 H1 _ hk e1 a1 (src_tup h1 (dats_srs h2))⟩
theorem src_rng {F : Hp} {lo : Int} {n : Nat} : Src K F (Itr lo n) (irange lo n) := fun A F' H i e at' => by
  refine ⟨fun hi => by rw [irange_length] at hi; exact hi, fun s hs => ?_⟩
  obtain ⟨hi, rfl⟩ := irange_get hs
  refine ⟨hi, fun x H' y => ?_⟩
  obtain ⟨rfl, rfl⟩ := y
  exact ⟨F', Same.refl F', at', .int _⟩
theorem iw_rng1 {ta : TA} {k : KS} (h : WpA K A ta S fun A1 ss => ∃ n : Int, ss = [.dat (.int n)] ∧ -(2 ^ 62) ≤ n ∧ n < 2 ^ 62 ∧ k A1 (irange 0 n.toNat)) : IW K A (iRng1 ta) S k := fun R F σ H Q a sd q =>
  h R F σ H _ a sd fun A1 ss vs F1 H1 ⟨n, hs, h1, h2, hk⟩ e1 a1 r1 => by
    subst hs
    cases r1 with
    | cons q1 r2 =>
      cases r2
      obtain rfl := sr_int q1
      exact ⟨n, rfl, h1, h2, q A1 _ F1 H1 _ hk e1 a1 src_rng⟩
theorem iw_rng2 {ta : TA} {k : KS} (h : WpA K A ta S fun A1 ss => ∃ m n : Int, ss = [.dat (.int m), .dat (.int n)] ∧ (-(2 ^ 62) ≤ m ∧ m < 2 ^ 62 ∧ -(2 ^ 62) ≤ n ∧ n < 2 ^ 62) ∧ k A1 (irange m (n - m).toNat)) : IW K A (iRng2 ta) S k := fun R F σ H Q a sd q =>
  h R F σ H _ a sd fun A1 ss vs F1 H1 ⟨m, n, hs, h1, hk⟩ e1 a1 r1 => by
    subst hs
    cases r1 with
    | cons q1 r2 =>
      cases r2 with
      | cons q2 r3 =>
        cases r3
        obtain rfl := sr_int q1
        obtain rfl := sr_int q2
        exact ⟨m, n, rfl, h1, q A1 _ F1 H1 _ hk e1 a1 src_rng⟩

/-! ### for, while -/
theorem go_for (h : IW K A wi S fun A1 xs => ∃ J : Nat → KS, J 0 A1 S ∧
    (∀ i s A2 S2, xs[i]? = some s → J i A2 S2 → GW K g s S2 A2 fun A3 S3 => Go K A3 tu S3 (E.loop (J (i + 1)))) ∧ ∀ A2 S2, J xs.length A2 S2 → E.nx A2 S2) : Go K A (tFor wi g tu) S E := fun R F σ H D a sd o => by
  refine h R F σ H _ a sd fun A1 xs F1 H1 J ⟨Jd, j0, js, je⟩ e1 a1 src => ?_
  refine ⟨fun i m σ' H' => m = xs.length - i ∧ i ≤ xs.length ∧ ∃ A2 S2 F2, Jd i A2 S2 ∧ Same F1 F2 ∧ AtR K A2 R F2 H' ∧ SD K F2 σ' S2, ⟨_, rfl, Nat.zero_le _, A1, S, F1, j0, Same.refl F1, a1, sd.mono e1⟩, ?_⟩
  rintro i m σ2 H2 ⟨rfl, hi, A2, S2, F2, hj, e2, a2, sd2⟩
  by_cases hlt : i < xs.length
  · obtain ⟨hg, hy⟩ := (src _ F2 H2 i e2 a2).2 xs[i] (List.getElem?_eq_getElem hlt)
    refine .inr ⟨hg, fun σ' H' => ∃ A3 S3 F3, Jd (i + 1) A3 S3 ∧ Same F2 F3 ∧ AtR K A3 R F3 H' ∧ SD K F3 σ' S3, fun σ' H' ⟨A3, S3, F3, h3, e3, a3, sd3⟩ => ⟨xs.length - (i + 1), by omega, rfl, hlt, A3, S3, F3, h3, e2.trans e3, a3, sd3⟩, fun x H' y => ?_⟩
    obtain ⟨F3, e3, a3, r3⟩ := hy x H' y
    refine js i _ A2 S2 (List.getElem?_eq_getElem hlt) hj R F3 σ2 H' x _ a3 (sd2.mono e3) r3 fun A4 S4 F4 σ4 H4 h4 e4 a4 sd4 => ?_
    refine h4 R F4 σ4 H4 _ a4 sd4 ⟨fun A5 S5 F5 σ5 H5 h5 e5 a5 sd5 => ⟨A5, S5, F5, h5, (e3.trans e4).trans e5, a5, sd5⟩, fun A5 S5 F5 σ5 H5 h5 e5 a5 sd5 => o.nx A5 S5 F5 σ5 H5 h5 ((((e1.trans e2).trans e3).trans e4).trans e5) a5 sd5,
      fun A5 S5 F5 σ5 H5 h5 e5 a5 sd5 => ⟨A5, S5, F5, h5, (e3.trans e4).trans e5, a5, sd5⟩, o.rt.mono (((e1.trans e2).trans e3).trans e4)⟩
  · have ei : i = xs.length := by omega
    subst ei
    exact .inl ⟨(src _ F2 H2 xs.length e2 a2).1 (Nat.le_refl _), o.nx A2 S2 F2 σ2 H2 (je A2 S2 hj) (e1.trans e2) a2 sd2⟩
theorem go_while {tc : TT} (W : Nat → KS) (w0 : ∃ m, W m A S) (h : ∀ m A1 S1, W m A1 S1 → WpT K A1 tc S1 fun A2 b => (b = true → Go K A2 tu S1 (E.loop fun A3 S3 => ∃ m', m' < m ∧ W m' A3 S3)) ∧ (b = false → E.nx A2 S1)) :
    Go K A (tWhile tc tu) S E := fun R F σ H D a sd o => by
  obtain ⟨m0, w0⟩ := w0
  refine ⟨fun m σ' H' => ∃ A2 S2 F2, W m A2 S2 ∧ Same F F2 ∧ AtR K A2 R F2 H' ∧ SD K F2 σ' S2, ⟨m0, A, S, F, w0, Same.refl F, a, sd⟩, ?_⟩
  rintro m σ2 H2 ⟨A2, S2, F2, hw, e2, a2, sd2⟩
  refine h m A2 S2 hw R F2 σ2 H2 _ a2 sd2 fun A3 b F3 H3 h3 e3 a3 => ?_
  cases b with
  | true =>
    refine ⟨fun σ' H' => ∃ m', m' < m ∧ ∃ A4 S4 F4, W m' A4 S4 ∧ Same F3 F4 ∧ AtR K A4 R F4 H' ∧ SD K F4 σ' S4, fun σ' H' ⟨m', hm, A4, S4, F4, h4, e4, a4, sd4⟩ => ⟨m', hm, A4, S4, F4, h4, (e2.trans e3).trans e4, a4, sd4⟩, ?_⟩
    exact h3.1 rfl R F3 σ2 H3 _ a3 (sd2.mono e3) ⟨fun A5 S5 F5 σ5 H5 ⟨m', hm, h5⟩ e5 a5 sd5 => ⟨m', hm, A5, S5, F5, h5, e5, a5, sd5⟩, o.nx.mono (e2.trans e3), fun A5 S5 F5 σ5 H5 ⟨m', hm, h5⟩ e5 a5 sd5 => ⟨m', hm, A5, S5, F5, h5, e5, a5, sd5⟩, o.rt.mono (e2.trans e3)⟩
  | false => exact o.nx A3 S2 F3 σ2 H3 (h3.2 rfl) (e2.trans e3) a3 (sd2.mono e3)

/-! ### comprehensions -/
def wipeS (S : List SV) : List Nat → List SV
  | [] => S
  | v :: vs => (wipeS S vs).set v .no
theorem SD.wipe {F : Hp} {σ : St} (h : SD K F σ S) : ∀ vs : List Nat, SD K F (L2.wipe σ vs) (wipeS S vs)
  | [] => h
  | v :: vs => SD.out (SD.wipe h vs) v
theorem wipe_get (σ : St) : ∀ (vs : List Nat) (i : Nat), (L2.wipe σ vs)[i]? = if i ∈ vs then (σ[i]?).map fun _ => none else σ[i]?
  | [], i => by simp [L2.wipe]
  | v :: vs, i => by
    show ((L2.wipe σ vs).set v none)[i]? = _
    by_cases h : v = i
    · subst h
      rw [List.getElem?_set]
      simp only [List.mem_cons, true_or, if_true, L2.wipe_length]
      by_cases hv : v < σ.length
      · simp [hv]
      · simp [hv]
    · rw [List.getElem?_set_ne h, wipe_get σ vs i]
      have : (i ∈ v :: vs) ↔ i ∈ vs := by
        simp only [List.mem_cons]
        constructor
        · rintro (q | q)
          · exact absurd q.symm h
          · exact q
        · exact .inr
      simp only [this]
theorem wipe_set (σ : St) (vs : List Nat) {i : Nat} (h : i ∈ vs) (o : Option V) : L2.wipe (σ.set i o) vs = L2.wipe σ vs := by
  refine List.ext_getElem? fun j => ?_
  rw [wipe_get, wipe_get]
  by_cases hj : j ∈ vs
  · rw [if_pos hj, if_pos hj, List.getElem?_set]
    by_cases e : i = j
    · subst e
      by_cases hl : i < σ.length
      · simp [hl]
      · simp [hl]
    · simp [e]
  · rw [if_neg hj, if_neg hj, List.getElem?_set_ne (fun e => hj (by rw [← e]; exact h))]
theorem wipe_idem (σ : St) (vs : List Nat) : L2.wipe (L2.wipe σ vs) vs = L2.wipe σ vs := by
  refine List.ext_getElem? fun j => ?_
  rw [wipe_get, wipe_get]
  by_cases hj : j ∈ vs
  · simp only [if_pos hj]
    cases σ[j]? <;> rfl
  · simp only [if_neg hj]
/-- a target stores nowhere but in these slots -/
def TOnly (g : TG) (vs : List Nat) : Prop := ∀ v σ H R, g v σ H R → g v σ H fun σ' H' => L2.wipe σ' vs = L2.wipe σ vs ∧ R σ' H'
def TsOnly (g : TGs) (vs : List Nat) : Prop := ∀ xs σ H R, g xs σ H R → g xs σ H fun σ' H' => L2.wipe σ' vs = L2.wipe σ vs ∧ R σ' H'
theorem to_name {i : Nat} {vs : List Nat} (h : i ∈ vs) : TOnly (gName i) vs := fun v σ H R q => ⟨wipe_set σ vs h _, q⟩
theorem tos_nil {vs : List Nat} : TsOnly gNil vs := fun xs σ H R q => ⟨q.1, rfl, q.2⟩
/-- a target's continuation may be made weaker -/
def TMono (g : TG) : Prop := ∀ v σ H (R R' : St → Hp → Prop), (∀ σ' H', R σ' H' → R' σ' H') → g v σ H R → g v σ H R'
def TsMono (g : TGs) : Prop := ∀ xs σ H (R R' : St → Hp → Prop), (∀ σ' H', R σ' H' → R' σ' H') → g xs σ H R → g xs σ H R'
theorem tm_name {i : Nat} : TMono (gName i) := fun v σ H R R' i q => i _ _ q
theorem tms_nil : TsMono gNil := fun xs σ H R R' i q => ⟨q.1, i _ _ q.2⟩
theorem tms_cons {u : TGs} (m1 : TMono g) (m2 : TsMono u) : TsMono (gCons g u) := fun xs σ H R R' i q => by
  obtain ⟨v, r, e, q⟩ := q
  exact ⟨v, r, e, m1 _ _ _ _ _ (fun σ' H' q' => m2 _ _ _ _ _ i q') q⟩
theorem tm_tup {n : Nat} {u : TGs} (m : TsMono u) : TMono (gTup K n u) := fun v σ H R R' i q => by
  obtain ⟨a, xs, e, h1, h2, q⟩ := q
  exact ⟨a, xs, e, h1, h2, m _ _ _ _ _ i q⟩
theorem tos_cons {u : TGs} {vs : List Nat} (m1 : TMono g) (m2 : TsMono u) (h1 : TOnly g vs) (h2 : TsOnly u vs) : TsOnly (gCons g u) vs := fun xs σ H R q => by
  obtain ⟨v, r, e, q⟩ := q
  exact ⟨v, r, e, m1 _ _ _ _ _ (fun σ' H' ⟨w, q'⟩ => m2 _ _ _ _ _ (fun σ2 H2 ⟨w2, q2⟩ => ⟨w2.trans w, q2⟩) (h2 _ _ _ _ q')) (h1 _ _ _ _ q)⟩
theorem to_tup {n : Nat} {u : TGs} {vs : List Nat} (h : TsOnly u vs) : TOnly (gTup K n u) vs := fun v σ H R q => by
  obtain ⟨a, xs, e, h1, h2, q⟩ := q
  exact ⟨a, xs, e, h1, h2, h _ _ _ _ q⟩
theorem At.perm {I : Blk} {l l' : List (Addr × Cell)} {F H : Hp} (a : At K ⟨I, l⟩ F H) (p : l.Perm l') : At K ⟨I, l'⟩ F H :=
  ⟨a.same, a.blk, a.bfree, fun q c h => a.cell q c (p.mem_iff.mpr h), (p.map _).nodup_iff.mp a.nd⟩
/-- the new list D goes along behind -/
theorem AtR.front {R : List (Addr × Cell)} {F H : Hp} {p : Addr} {c : Cell} (a : AtR K A ((p, c) :: R) F H) : AtR K (A.add p c) R F H := At.perm a List.perm_middle
theorem AtR.back {R : List (Addr × Cell)} {F H : Hp} {p : Addr} {c : Cell} (a : AtR K (A.add p c) R F H) : AtR K A ((p, c) :: R) F H := At.perm a List.perm_middle.symm
theorem dats_app (as : List PyData) (b : PyData) : (as ++ [b]).map SV.dat = as.map SV.dat ++ [SV.dat b] := by simp
/-- how a comprehension goes, its items any: acc what is made so far -/
def LcStep (K : PySem.W.Frag) (g : TG) (tt : TT) (te : TE) (S : List SV) (vs : List Nat) (J J' : Amb → List SV → Prop) (s : SV) : Prop :=
  ∀ A2 acc, J A2 acc → GW K g s (wipeS S vs) A2 fun A3 S3 => WpT K A3 tt S3 fun A4 b => (b = true → Wp K A4 te S3 fun A5 s5 => acc.length < sizeLine ∧ J' A5 (acc ++ [s5])) ∧ (b = false → J' A4 acc)
theorem wp_lcO {tt : TT} {vs : List Nat} {k : KA} (to : TOnly g vs) (h : IW K A wi S fun A1 xs => ∃ J : Nat → KS, J 0 A1 [] ∧ (∀ i s, xs[i]? = some s → LcStep K g tt te S vs (J i) (J (i + 1)) s) ∧
    ∀ A2 acc, J xs.length A2 acc → ∀ p, k (A2.add p (.lst acc)) (.ptr p)) : Wp K A (tLc wi g tt te vs) S k := fun R F σ H Q a sd q => by
  refine h R F σ H _ a sd fun A1 xs F1 H1 J ⟨Jd, j0, js, je⟩ e1 a1 src p hp => ?_
  refine ⟨fun i m H' => m = xs.length - i ∧ i ≤ xs.length ∧ ∃ A2 acc F2, Jd i A2 acc ∧ Same F1 F2 ∧ AtR K A2 ((p, .lst acc) :: R) F2 H', ⟨_, rfl, Nat.zero_le _, A1, [], F1, j0, Same.refl F1, (a1.new (o := .lst []) (c := .lst []) hp ⟨[], upd_same, .nil⟩).back⟩, ?_⟩
  rintro i m H2 ⟨rfl, hi, A2, acc, F2, hj, e2, a2⟩
  by_cases hlt : i < xs.length
  · obtain ⟨hg, hy⟩ := (src _ F2 H2 i e2 a2).2 xs[i] (List.getElem?_eq_getElem hlt)
    refine .inr ⟨hg, fun H' => ∃ A3 acc3 F3, Jd (i + 1) A3 acc3 ∧ Same F2 F3 ∧ AtR K A3 ((p, .lst acc3) :: R) F3 H', fun H' ⟨A3, acc3, F3, h3, e3, a3⟩ => ⟨xs.length - (i + 1), by omega, rfl, hlt, A3, acc3, F3, h3, e2.trans e3, a3⟩, fun x H' y => ?_⟩
    obtain ⟨F3, e3, a3, r3⟩ := hy x H' y
    have g1 := js i _ (List.getElem?_eq_getElem hlt) A2 acc hj ((p, .lst acc) :: R) F3 (L2.wipe σ vs) H' x (fun σ2 H2 => tt σ2 H2 fun b H3 => if b = true then te σ2 H3 fun y H4 => ∃ acc, H4 p = some (.lst acc) ∧ acc.length < sizeLine ∧ ∃ A3 acc3 F3, Jd (i + 1) A3 acc3 ∧ Same F2 F3 ∧ AtR K A3 ((p, .lst acc3) :: R) F3 (upd H4 p (.lst (acc ++ [y]))) else ∃ A3 acc3 F3, Jd (i + 1) A3 acc3 ∧ Same F2 F3 ∧ AtR K A3 ((p, .lst acc3) :: R) F3 H3) a3 (((sd.mono e1).mono (e2.trans e3)).wipe vs) r3 ?_
    · have g2 := to x (L2.wipe σ vs) H' _ g1
      rw [wipe_idem] at g2
      exact g2
    intro A4 S4 F4 σ4 H4 h4 e4 a4 sd4
    refine h4 _ F4 σ4 H4 _ a4 sd4 fun A5 b F5 H5 h5 e5 a5 => ?_
    cases b with
    | true =>
      show te σ4 H5 _
      refine h5.1 rfl _ F5 σ4 H5 _ a5 (sd4.mono e5) fun A6 s6 v6 F6 H6 ⟨hl, h6⟩ e6 a6 r6 => ?_
      obtain ⟨_, _, us, f3, f4⟩ := At.cell a6 p (.lst acc) (List.mem_append_right _ List.mem_cons_self)
      refine ⟨us, f3, by rw [f4.length]; exact hl, A6, _, F6, h6, ((e3.trans e4).trans e5).trans e6, ?_⟩
      have a7 := (a6.front).put (o := .lst (us ++ [v6])) (c' := .lst (acc ++ [s6])) .head ⟨_, upd_same, papp f4 (.cons r6 .nil)⟩
      exact a7.back
    | false => exact ⟨A5, acc, F5, h5.2 rfl, (e3.trans e4).trans e5, a5⟩
  · have ei : i = xs.length := by omega
    subst ei
    refine .inl ⟨(src _ F2 H2 xs.length e2 a2).1 (Nat.le_refl _), ?_⟩
    exact q _ _ _ F2 H2 (je A2 acc hj p) (e1.trans e2) a2.front rfl
/-- .. as data -/
theorem wp_lc {tt : TT} {vs : List Nat} {k : KA} (to : TOnly g vs) (h : IW K A wi S fun A1 xs => ∃ J : Nat → KS, J 0 A1 [] ∧ (∀ i s, xs[i]? = some s → LcStep K g tt te S vs (J i) (J (i + 1)) s) ∧
    ∀ A2 acc, J xs.length A2 acc → ∃ ds, acc = ds.map .dat ∧ k A2 (.dat (.list ds))) : Wp K A (tLc wi g tt te vs) S k :=
  wp_frz (wp_lcO to fun R F σ H Q a sd q => h R F σ H Q a sd fun A1 xs F1 H1 J ⟨Jd, j0, js, je⟩ => q A1 xs F1 H1 J ⟨Jd, j0, js, fun A2 acc hj p => by
    obtain ⟨ds, rfl, hk⟩ := je A2 acc hj
    exact ⟨p, ds, A2.cells, rfl, .head, hk⟩⟩)
/-- .. of steps that leave what is owned: the items by a function -/
theorem wp_lcP {tt : TT} {vs : List Nat} {k : KA} (to : TOnly g vs) (h : IW K A wi S fun A1 (xs : List SV) => ∃ f : SV → Option PyData, xs.length ≤ sizeLine ∧
    (∀ (i : Nat) (s : SV), xs[i]? = some s → GW K g s (wipeS S vs) A1 fun A3 S3 => WpT K A3 tt S3 fun A4 b => (b = true → Wp K A4 te S3 fun A5 s5 => A5 = A1 ∧ ∃ d, s5 = .dat d ∧ f s = some d) ∧ (b = false → A4 = A1 ∧ f s = none)) ∧
    k A1 (.dat (.list (xs.filterMap f)))) : Wp K A (tLc wi g tt te vs) S k :=
  wp_lc to fun R F σ H Q a sd q => h R F σ H Q a sd fun A1 xs F1 H1 J ⟨f, hl, hs, hk⟩ => q A1 xs F1 H1 J
    ⟨fun i A2 acc => A2 = A1 ∧ i ≤ xs.length ∧ acc = ((xs.take i).filterMap f).map .dat, ⟨rfl, Nat.zero_le _, rfl⟩, fun i s hi A2 acc ⟨e1, e0, e2⟩ => by
      subst e1; subst e2
      have hlt := (List.getElem?_eq_some_iff.mp hi).1
      have ht : xs.take (i + 1) = xs.take i ++ [s] := by rw [List.take_add_one, hi]; rfl
      refine fun R' F' σ' H' v' Q' a' sd' r' q' => hs i s hi R' F' σ' H' v' Q' a' sd' r' fun A3 S3 F3 σ3 H3 h3 => q' A3 S3 F3 σ3 H3 (h3.imp fun A4 b ⟨h4, h5⟩ => ⟨fun hb => (h4 hb).imp fun A5 s5 ⟨e5, d, e6, e7⟩ => ?_, fun hb => ?_⟩)
      · subst e5; subst e6
        refine ⟨?_, rfl, hlt, by rw [ht, List.filterMap_append, List.map_append]; simp [e7]⟩
        have := List.length_filterMap_le f (xs.take i)
        rw [List.length_map]
        have h2 : (xs.take i).length = i := by rw [List.length_take]; omega
        omega
      · obtain ⟨e5, e6⟩ := h5 hb
        subst e5
        exact ⟨rfl, hlt, by rw [ht, List.filterMap_append]; simp [e6]⟩, fun A2 acc ⟨e1, e0, e2⟩ => by
      subst e1; subst e2
      exact ⟨_, rfl, by rw [List.take_length]; exact hk⟩⟩
end
end DL

/-! Rules by values that the hand layer lacks: sorted over data, in over tuples of data. -/
namespace DL
open PySem L2 PySem.W

abbrev dsort (ds : List PyData) : List PyData := ds.mergeSort (dataLe false id)
def rSortedD (K : PySem.W.Frag) : List V → Hp → VK → Prop := fun vs H Q => ∃ (a : Addr) (xs : List V) (ds : List PyData), vs = [V.ref a] ∧ SqL K H a xs ∧ DpAll K H xs ds ∧ AllAlike ds ∧ Sortable ds ∧ (∀ d ∈ ds, d.depth ≤ 60) ∧
  ∀ p, H p = none → Q (.ref p) (upd H p (.lst (((xs.zip ds).mergeSort (dataLe false Prod.snd)).map Prod.fst)))
section
variable {X : Cx}
theorem DpAll_length {K : PySem.W.Frag} {H : Hp} : ∀ {xs : List V} {ds : List PyData}, DpAll K H xs ds → xs.length = ds.length
  | _, _, .nil => rfl
  | _, _, .cons _ t => congrArg (· + 1) (DpAll_length t)
theorem each_zip {K : PySem.W.Frag} {H : Hp} : ∀ {xs : List V} {ds : List PyData} {us : List Value}, DpAll K H xs ds → Vals xs us → EachIs (fun (u : Value) (b : V × PyData) => RelV b.1 u) us (xs.zip ds)
  | _, _, _, .nil, .nil => .nil
  | _, _, _, .cons h t, .cons r rs => .cons r (each_zip t rs)
theorem each_reads {pins : List (Addr × Obj)} {σ : St} {H : Hp} {s : Shared} (I : Inv X pins σ H s) : ∀ {xs : List V} {ds : List PyData} {us : List Value}, DpAll X.K H xs ds → Vals xs us → EachIs (fun (u : Value) (b : V × PyData) => ∃ as, Reads s.heap u (Prod.snd b) as) us (xs.zip ds)
  | _, _, _, .nil, .nil => .nil
  | _, _, _, .cons h t, .cons r rs => .cons (Dp.reads I _ _ _ h r) (each_reads I t rs)
theorem each_vals : ∀ {us : List Value} {bs : List (V × PyData)}, EachIs (fun (u : Value) (b : V × PyData) => RelV b.1 u) us bs → Vals (bs.map Prod.fst) us
  | _, _, .nil => .nil
  | _, _, .cons r t => .cons r (each_vals t)
theorem cr_sortedD (hu : X.A.units + 65 < cLine) : CallR X (.builtin "sorted") (rSortedD X.K) := by
  intro pins s σ H vs us Q I r h
  obtain ⟨a, xs, ds, rfl, hs, hd, hal, hk, hdep, q⟩ := h
  obtain ⟨its, rv, hl, hz⟩ := I.list hs
  rw [Vals.ref1 r]
  have e2 : (xs.zip ds).map Prod.snd = ds := List.map_snd_zip (by rw [DpAll_length hd]; exact Nat.le_refl _)
  have hlen : (xs.zip ds).length = xs.length := by rw [List.length_zip, DpAll_length hd]; exact Nat.min_self _
  refine sorted_data (enc := Prod.snd) (bs := xs.zip ds) hl.isList (each_zip hd rv) (each_reads I hd rv) (by rw [e2]; exact hal) (by rw [e2]; exact hk) ?_ ?_ fun out h1 h2 => ?_
  · rw [hlen]
    exact hz
  · intro b hb
    have hb' : b.2 ∈ ds := by
      rw [← e2]
      exact List.mem_map.mpr ⟨b, hb, rfl⟩
    have := hdep _ hb'
    show X.A.units + 2 + (b.2).depth < cLine
    omega
  · obtain ⟨ep, he'⟩ := PyProof.Rows.sortedAll_at s.heap its (List.toArray out)
    have hv := each_vals h2
    refine ⟨.ref _, upd H (s.heap.objs.size + 1) (.lst _), I.laid (t' := s.toks) (fun _ _ => PyProof.Rows.sortedAll_old) (Nat.le_succ _) ⟨?_, out, ep, hv, he'⟩, rfl, q _ (I.hok.fresh (Nat.le_succ _))⟩
    rw [List.length_map, (List.mergeSort_perm _ _).length_eq, hlen]
    exact hz
def rInTD (K : PySem.W.Frag) : R2 := fun x y H Q => ∃ d ds, Dp K H x d ∧ (Dp K H y (.tuple ds) ∨ Dp K H y (.list ds)) ∧ SeqAt.shaped d = true ∧ SeqAt.shaped (.tuple ds) = true ∧ Q (.bl (ds.any fun z => PyData.eqv z d)) H
def rNotInTD (K : PySem.W.Frag) : R2 := fun x y H Q => ∃ d ds, Dp K H x d ∧ (Dp K H y (.tuple ds) ∨ Dp K H y (.list ds)) ∧ SeqAt.shaped d = true ∧ SeqAt.shaped (.tuple ds) = true ∧ Q (.bl (!ds.any fun z => PyData.eqv z d)) H
theorem op_inTD (hu : X.A.units + 65 < cLine) : OpR X (compareOp .In) (rInTD X.K) := by
  intro pins s σ H x y v u Q I rx ry h
  obtain ⟨d, ds, hd, he, sd, se, q⟩ := h
  obtain ⟨as, r1⟩ := Dp.reads I d x v hd rx
  rcases he with he | he
  · obtain ⟨bs, r2⟩ := Dp.reads I (.tuple ds) y u he ry
    exact SeqAt.in_tuple_reads r2 r1 (SeqAt.canLay_of_shaped se) (SeqAt.canLay_of_shaped sd) (PyProof.Rows.room_in_shaped sd hu) ⟨.bl _, H, I, rfl, q⟩
  · obtain ⟨bs, r2⟩ := Dp.reads I (.list ds) y u he ry
    exact SeqAt.in_list_reads r2 r1 (SeqAt.canLay_of_shaped se) (SeqAt.canLay_of_shaped sd) (PyProof.Rows.room_in_shaped sd hu) ⟨.bl _, H, I, rfl, q⟩
theorem op_notInTD (hu : X.A.units + 65 < cLine) : OpR X (compareOp .NotIn) (rNotInTD X.K) := by
  intro pins s σ H x y v u Q I rx ry h
  obtain ⟨d, ds, hd, he, sd, se, q⟩ := h
  obtain ⟨as, r1⟩ := Dp.reads I d x v hd rx
  rcases he with he | he
  · obtain ⟨bs, r2⟩ := Dp.reads I (.tuple ds) y u he ry
    exact SeqAt.notIn_tuple_reads r2 r1 (SeqAt.canLay_of_shaped se) (SeqAt.canLay_of_shaped sd) (PyProof.Rows.room_in_shaped sd hu) ⟨.bl _, H, I, rfl, q⟩
  · obtain ⟨bs, r2⟩ := Dp.reads I (.list ds) y u he ry
    exact SeqAt.notIn_list_reads r2 r1 (SeqAt.canLay_of_shaped se) (SeqAt.canLay_of_shaped sd) (PyProof.Rows.room_in_shaped sd hu) ⟨.bl _, H, I, rfl, q⟩
end
end DL

/-! The data layer: operators, built-ins, dicts, defs, blocks. -/
namespace DL
open PySem L2

def vd : V → Option PyData
  | .non => some .none
  | .bl b => some (.bool b)
  | .int i => some (.int i)
  | .str x => some (.str x)
  | _ => none
theorem vd_dt {K : PySem.W.Frag} {F : Hp} : ∀ {v : V} {d : PyData}, vd v = some d → Dt K F v d
  | .non, _, h => by cases h; exact .non
  | .bl b, _, h => by cases h; exact .bl b
  | .int i, _, h => by cases h; exact .int i
  | .str x, _, h => by cases h; exact .str x
  | .byt _, _, h => by cases h
  | .flt _, _, h => by cases h
  | .ref _, _, h => by cases h
  | .ty _, _, h => by cases h
section
variable {K : PySem.W.Frag} {A A' : Amb} {S S' : List SV} {k k' : KA} {ta tb te td ty tv : TE} {t u : TT} {s s1 s2 : SV} {E : DE} {tu tw : TS}
/-! ### operators -/
theorem rw_I0 {g : Int → Int → V} {i j : Int} {d : PyData} (e : vd (g i j) = some d) (h : k A (.dat d)) : RW K (rI0 g) (.dat (.int i)) (.dat (.int j)) A k := fun R F H v w Q a r1 r2 q => by
  obtain rfl := sr_int r1
  obtain rfl := sr_int r2
  exact ⟨i, j, rfl, rfl, q A _ _ F H h (Same.refl F) a (vd_dt e)⟩
theorem rw_I {C : Int → Int → Prop} {g : Int → Int → V} {i j : Int} {d : PyData} (hc : C i j) (e : vd (g i j) = some d) (h : k A (.dat d)) : RW K (rI C g) (.dat (.int i)) (.dat (.int j)) A k := fun R F H v w Q a r1 r2 q => by
  obtain rfl := sr_int r1
  obtain rfl := sr_int r2
  exact ⟨i, j, rfl, rfl, hc, q A _ _ F H h (Same.refl F) a (vd_dt e)⟩
theorem uw_U {g : Int → V} {i : Int} {d : PyData} (e : vd (g i) = some d) (h : k A (.dat d)) : UW K (rU g) (.dat (.int i)) A k := fun R F H v Q a r1 q => by
  obtain rfl := sr_int r1
  exact ⟨i, rfl, q A _ _ F H h (Same.refl F) a (vd_dt e)⟩
theorem rw_eqD {d e : PyData} (hd : SeqAt.shaped d = true) (he : SeqAt.shaped e = true) (h : k A (.dat (.bool (PyData.eqv d e)))) : RW K (rEqD K) (.dat d) (.dat e) A k := fun R F H v w Q a r1 r2 q =>
  ⟨d, e, (Dt.mono a.same r1).dp (nd_sh hd), (Dt.mono a.same r2).dp (nd_sh he), hd, he, q A _ _ F H h (Same.refl F) a (.bl _)⟩
theorem rw_neD {d e : PyData} (hd : SeqAt.shaped d = true) (he : SeqAt.shaped e = true) (h : k A (.dat (.bool (!PyData.eqv d e)))) : RW K (rNeD K) (.dat d) (.dat e) A k := fun R F H v w Q a r1 r2 q =>
  ⟨d, e, (Dt.mono a.same r1).dp (nd_sh hd), (Dt.mono a.same r2).dp (nd_sh he), hd, he, q A _ _ F H h (Same.refl F) a (.bl _)⟩
theorem AtR.cellD {R : List (Addr × Cell)} {F H : Hp} {p : Addr} {ds : List PyData} (a : AtR K A R F H) (h : (p, .lst (ds.map .dat)) ∈ A.cells) : ∃ vs, H p = some (.lst vs) ∧ DtAll K F vs ds := by
  obtain ⟨vs, h1, h2⟩ := a.cell h
  exact ⟨vs, h1, srs_dats h2⟩
theorem AtR.cellP {R : List (Addr × Cell)} {F H : Hp} {p : Addr} {ds : List PyData} (a : AtR K A R F H) (h : (p, .lst (ds.map .dat)) ∈ A.cells) : Dt K H (.ref p) (.list ds) := by
  obtain ⟨vs, h1, h2⟩ := a.cellD h
  exact Dt.lst h1 (h2.mono a.same)
/-- an owned list of data beside data -/
theorem rw_eqP {p : Addr} {ds : List PyData} {e : PyData} (hp : (p, .lst (ds.map .dat)) ∈ A.cells) (hd : SeqAt.shaped (.list ds) = true) (he : SeqAt.shaped e = true) (h : k A (.dat (.bool (PyData.eqv (.list ds) e)))) : RW K (rEqD K) (.ptr p) (.dat e) A k := fun R F H v w Q a r1 r2 q => by
  obtain rfl : v = .ref p := r1
  exact ⟨_, e, (a.cellP hp).dp (nd_sh hd), (Dt.mono a.same r2).dp (nd_sh he), hd, he, q A _ _ F H h (Same.refl F) a (.bl _)⟩
theorem rw_neP {p : Addr} {ds : List PyData} {e : PyData} (hp : (p, .lst (ds.map .dat)) ∈ A.cells) (hd : SeqAt.shaped (.list ds) = true) (he : SeqAt.shaped e = true) (h : k A (.dat (.bool (!PyData.eqv (.list ds) e)))) : RW K (rNeD K) (.ptr p) (.dat e) A k := fun R F H v w Q a r1 r2 q => by
  obtain rfl : v = .ref p := r1
  exact ⟨_, e, (a.cellP hp).dp (nd_sh hd), (Dt.mono a.same r2).dp (nd_sh he), hd, he, q A _ _ F H h (Same.refl F) a (.bl _)⟩
theorem rw_inT {d : PyData} {ds : List PyData} (hd : SeqAt.shaped d = true) (he : SeqAt.shaped (.tuple ds) = true) (h : k A (.dat (.bool (ds.any fun z => PyData.eqv z d)))) : RW K (rInTD K) (.dat d) (.dat (.tuple ds)) A k := fun R F H v w Q a r1 r2 q =>
  ⟨d, ds, (Dt.mono a.same r1).dp (nd_sh hd), .inl ((Dt.mono a.same r2).dp (nd_sh he)), hd, he, q A _ _ F H h (Same.refl F) a (.bl _)⟩
theorem rw_inL {d : PyData} {ds : List PyData} (hd : SeqAt.shaped d = true) (he : SeqAt.shaped (.tuple ds) = true) (h : k A (.dat (.bool (ds.any fun z => PyData.eqv z d)))) : RW K (rInTD K) (.dat d) (.dat (.list ds)) A k := fun R F H v w Q a r1 r2 q =>
  ⟨d, ds, (Dt.mono a.same r1).dp (nd_sh hd), .inr ((Dt.mono a.same r2).dp (nd_shT he)), hd, he, q A _ _ F H h (Same.refl F) a (.bl _)⟩
theorem rw_niT {d : PyData} {ds : List PyData} (hd : SeqAt.shaped d = true) (he : SeqAt.shaped (.tuple ds) = true) (h : k A (.dat (.bool (!ds.any fun z => PyData.eqv z d)))) : RW K (rNotInTD K) (.dat d) (.dat (.tuple ds)) A k := fun R F H v w Q a r1 r2 q =>
  ⟨d, ds, (Dt.mono a.same r1).dp (nd_sh hd), .inl ((Dt.mono a.same r2).dp (nd_sh he)), hd, he, q A _ _ F H h (Same.refl F) a (.bl _)⟩
theorem rw_niL {d : PyData} {ds : List PyData} (hd : SeqAt.shaped d = true) (he : SeqAt.shaped (.tuple ds) = true) (h : k A (.dat (.bool (!ds.any fun z => PyData.eqv z d)))) : RW K (rNotInTD K) (.dat d) (.dat (.list ds)) A k := fun R F H v w Q a r1 r2 q =>
  ⟨d, ds, (Dt.mono a.same r1).dp (nd_sh hd), .inr ((Dt.mono a.same r2).dp (nd_shT he)), hd, he, q A _ _ F H h (Same.refl F) a (.bl _)⟩
/-- x in an owned list of data -/
theorem rw_inP {d : PyData} {p : Addr} {ds : List PyData} (hp : (p, .lst (ds.map .dat)) ∈ A.cells) (hd : SeqAt.shaped d = true) (he : SeqAt.shaped (.tuple ds) = true) (h : k A (.dat (.bool (ds.any fun z => PyData.eqv z d)))) : RW K (rInTD K) (.dat d) (.ptr p) A k := fun R F H v w Q a r1 r2 q => by
  obtain rfl : w = .ref p := r2
  exact ⟨d, ds, (Dt.mono a.same r1).dp (nd_sh hd), .inr ((a.cellP hp).dp (nd_shT he)), hd, he, q A _ _ F H h (Same.refl F) a (.bl _)⟩
theorem rw_niP {d : PyData} {p : Addr} {ds : List PyData} (hp : (p, .lst (ds.map .dat)) ∈ A.cells) (hd : SeqAt.shaped d = true) (he : SeqAt.shaped (.tuple ds) = true) (h : k A (.dat (.bool (!ds.any fun z => PyData.eqv z d)))) : RW K (rNotInTD K) (.dat d) (.ptr p) A k := fun R F H v w Q a r1 r2 q => by
  obtain rfl : w = .ref p := r2
  exact ⟨d, ds, (Dt.mono a.same r1).dp (nd_sh hd), .inr ((a.cellP hp).dp (nd_shT he)), hd, he, q A _ _ F H h (Same.refl F) a (.bl _)⟩
theorem atI_map {α β : Type} (f : α → β) (xs : List α) (i : Int) : atI (xs.map f) i = (atI xs i).map f := by
  unfold atI
  rw [List.length_map]
  cases ixN xs.length i with
  | none => rfl
  | some j => simp
theorem atI_all {F : Hp} {xs : List V} {ds : List PyData} {i : Int} {d : PyData} (h : DtAll K F xs ds) (e : atI ds i = some d) : ∃ v, atI xs i = some v ∧ Dt K F v d := by
  unfold atI at e ⊢
  rw [h.length]
  cases hj : ixN ds.length i with
  | none => rw [hj] at e; cases e
  | some j =>
    rw [hj] at e
    exact h.getD (i := j) e
theorem atI_srs {F : Hp} {xs : List V} {ss : List SV} {i : Int} {s : SV} (h : SRs K F xs ss) (e : atI ss i = some s) : ∃ v, atI xs i = some v ∧ SR K F v s := by
  unfold atI at e ⊢
  rw [h.length]
  cases hj : ixN ss.length i with
  | none => rw [hj] at e; cases e
  | some j =>
    rw [hj] at e
    exact pget h (i := j) e
theorem rw_ixT {ds : List PyData} {i : Int} {d : PyData} (e : atI ds i = some d) (h : k A (.dat d)) : RW K (rIx K) (.dat (.tuple ds)) (.dat (.int i)) A k := fun R F H v w Q a r1 r2 q => by
  obtain ⟨p, xs, rfl, h1, h2⟩ := sr_tup r1
  obtain rfl := sr_int r2
  obtain ⟨x, h3, h4⟩ := atI_all h2 e
  exact .inr (.inl ⟨p, xs, i, x, rfl, rfl, same_t a.same h1, h3, q A _ _ F H h (Same.refl F) a h4⟩)
theorem rw_ixL {ds : List PyData} {i : Int} {d : PyData} (e : atI ds i = some d) (h : k A (.dat d)) : RW K (rIx K) (.dat (.list ds)) (.dat (.int i)) A k := fun R F H v w Q a r1 r2 q => by
  obtain ⟨p, xs, rfl, h1, h2⟩ := sr_lst r1
  obtain rfl := sr_int r2
  obtain ⟨x, h3, h4⟩ := atI_all h2 e
  exact .inl ⟨p, xs, i, x, rfl, rfl, .inl (.inl (a.same _ _ h1)), h3, q A _ _ F H h (Same.refl F) a h4⟩
theorem rw_ixP {p : Addr} {xs : List SV} {i : Int} {s : SV} (hp : (p, .lst xs) ∈ A.cells) (e : atI xs i = some s) (h : k A s) : RW K (rIx K) (.ptr p) (.dat (.int i)) A k := fun R F H v w Q a r1 r2 q => by
  obtain rfl : v = .ref p := r1
  obtain rfl := sr_int r2
  obtain ⟨vs, h1, h2⟩ := a.cell hp
  obtain ⟨x, h3, h4⟩ := atI_srs h2 e
  exact .inl ⟨p, vs, i, x, rfl, rfl, .inl (.inl h1), h3, q A _ _ F H h (Same.refl F) a h4⟩
theorem rw_ixS {ns : List Int} {i : Int} {n : Int} (e : atI ns i = some n) (h : k A (.dat (.int n))) : RW K (rIx K) (.scr ns) (.dat (.int i)) A k := fun R F H v w Q a r1 r2 q => by
  obtain ⟨p, rfl, h1⟩ := r1
  obtain rfl := sr_int r2
  exact .inl ⟨p, _, i, .int n, rfl, rfl, a.same.seq h1, by rw [atI_map, e]; rfl, q A _ _ F H h (Same.refl F) a (.int n)⟩
theorem rw_ixX {z : Str} {i : Int} {c : Nat} (hz : z.length ≤ sizeLine) (e : atI z.cps.toList i = some c) (h : k A (.dat (.str ⟨#[c]⟩))) : RW K (rIx K) (.dat (.str z)) (.dat (.int i)) A k := fun R F H v w Q a r1 r2 q => by
  obtain rfl := sr_str r1
  obtain rfl := sr_int r2
  exact .inr (.inr ⟨z, i, c, rfl, rfl, hz, e, q A _ _ F H h (Same.refl F) a (.str _)⟩)
/-- two lists of data put together: a new one, as data -/
theorem rw_cat {ds es : List PyData} (hl : ds.length + es.length ≤ sizeLine) (h : k A (.dat (.list (ds ++ es)))) : RW K rCat (.dat (.list ds)) (.dat (.list es)) A k := fun R F H v w Q a r1 r2 q => by
  obtain ⟨p, xs, rfl, h1, h2⟩ := sr_lst r1
  obtain ⟨p', ys, rfl, h3, h4⟩ := sr_lst r2
  refine ⟨p, p', xs, ys, rfl, rfl, a.same _ _ h1, a.same _ _ h3, by rw [h2.length, h4.length]; exact hl, fun n hn => ?_⟩
  obtain ⟨a2, e2⟩ := a.alloc (o := .lst (xs ++ ys)) hn
  exact q A _ _ _ _ h e2 a2 (.lst upd_same ((h2.append h4).mono e2))
/-! ### built-ins -/
def rLenD (K : PySem.W.Frag) : List V → Hp → VK → Prop := fun xs H Q => ∃ x n, xs = [x] ∧ LenV K x H n ∧ Q (.int n) H
theorem call_lenA {X : Cx} : CallR X (.builtin "len") (rLenD X.K) := call_len
def rListD2 (K : PySem.W.Frag) : List V → Hp → VK → Prop := fun xs H Q => ∃ p ys, xs = [.ref p] ∧ (SqL K H p ys ∨ SqT K H p ys) ∧ ∀ l, H l = none → Q (.ref l) (upd H l (.lst ys))
theorem call_listA {X : Cx} : CallR X (.type "list") (rListD2 X.K) := call_list_of
def rTupD2 (K : PySem.W.Frag) : List V → Hp → VK → Prop := fun xs H Q => ∃ p ys, xs = [.ref p] ∧ ((SqL K H p ys ∧ ∀ l, H l = none → Q (.ref l) (upd H l (.tup ys))) ∨ (SqT K H p ys ∧ Q (.ref p) H))
theorem call_tupA {X : Cx} : CallR X (.type "tuple") (rTupD2 X.K) := call_tuple_of
theorem one_of {F : Hp} {vs : List V} (r : SRs K F vs [s]) : ∃ v, vs = [v] ∧ SR K F v s := by
  cases r with
  | cons r1 r2 =>
    cases r2
    exact ⟨_, rfl, r1⟩
theorem two_of {F : Hp} {vs : List V} (r : SRs K F vs [s1, s2]) : ∃ v w, vs = [v, w] ∧ SR K F v s1 ∧ SR K F w s2 := by
  cases r with
  | cons r1 r2 =>
    cases r2 with
    | cons r3 r4 =>
      cases r4
      exact ⟨_, _, rfl, r1, r3⟩
theorem cw_lenL {ds : List PyData} (h : k A (.dat (.int ds.length))) : CW K (rLenD K) [.dat (.list ds)] A k := fun R F H vs Q a r q => by
  obtain ⟨v, rfl, r1⟩ := one_of r
  obtain ⟨p, xs, rfl, h1, h2⟩ := sr_lst r1
  exact ⟨_, xs.length, rfl, .inl ⟨xs, .inl (.inl (a.same _ _ h1)), rfl⟩, by rw [h2.length]; exact q A _ _ F H h (Same.refl F) a (.int _)⟩
theorem cw_lenT {ds : List PyData} (h : k A (.dat (.int ds.length))) : CW K (rLenD K) [.dat (.tuple ds)] A k := fun R F H vs Q a r q => by
  obtain ⟨v, rfl, r1⟩ := one_of r
  obtain ⟨p, xs, rfl, h1, h2⟩ := sr_tup r1
  exact ⟨_, xs.length, rfl, .inr ⟨xs, same_t a.same h1, rfl⟩, by rw [h2.length]; exact q A _ _ F H h (Same.refl F) a (.int _)⟩
theorem cw_lenP {p : Addr} {xs : List SV} (hp : (p, .lst xs) ∈ A.cells) (h : k A (.dat (.int xs.length))) : CW K (rLenD K) [.ptr p] A k := fun R F H vs Q a r q => by
  obtain ⟨v, rfl, r1⟩ := one_of r
  obtain rfl : v = .ref p := r1
  obtain ⟨us, h1, h2⟩ := a.cell hp
  exact ⟨_, us.length, rfl, .inl ⟨us, .inl (.inl h1), rfl⟩, by rw [h2.length]; exact q A _ _ F H h (Same.refl F) a (.int _)⟩
theorem cw_lenS {ns : List Int} (h : k A (.dat (.int ns.length))) : CW K (rLenD K) [.scr ns] A k := fun R F H vs Q a r q => by
  obtain ⟨v, rfl, p, rfl, h1⟩ := one_of r
  exact ⟨_, (ns.map V.int).length, rfl, .inl ⟨_, a.same.seq h1, rfl⟩, by rw [List.length_map]; exact q A _ _ F H h (Same.refl F) a (.int _)⟩
theorem cw_lenX {z : Str} (hz : z.length ≤ sizeLine) (h : k A (.dat (.int z.length))) : CW K (rLenD K) [.dat (.str z)] A k := fun R F H vs Q a r q => by
  obtain ⟨v, rfl, r1⟩ := one_of r
  obtain rfl := sr_str r1
  exact ⟨_, z.length, rfl, ⟨hz, rfl⟩, q A _ _ F H h (Same.refl F) a (.int _)⟩
/-- list(x): a new list, one's own -/
theorem cw_listS {ns : List Int} (h : ∀ p, k (A.add p (.lst (ns.map fun n => .dat (.int n)))) (.ptr p)) : CW K (rListD2 K) [.scr ns] A k := fun R F H vs Q a r q => by
  obtain ⟨v, rfl, p, rfl, h1⟩ := one_of r
  refine ⟨p, _, rfl, .inl (a.same.seq h1), fun l hl => ?_⟩
  exact q _ _ _ _ _ (h l) (Same.refl F) (a.new hl ⟨_, upd_same, ints_srs ns⟩) rfl
theorem cw_listD {ds : List PyData} {d : PyData} (hd : d = .list ds ∨ d = .tuple ds) (h : ∀ p, k (A.add p (.lst (ds.map .dat))) (.ptr p)) : CW K (rListD2 K) [.dat d] A k := fun R F H vs Q a r q => by
  obtain ⟨v, rfl, r1⟩ := one_of r
  rcases hd with rfl | rfl
  · obtain ⟨p, xs, rfl, h1, h2⟩ := sr_lst r1
    exact ⟨p, xs, rfl, .inl (.inl (.inl (a.same _ _ h1))), fun l hl => q _ _ _ _ _ (h l) (Same.refl F) (a.new (o := .lst xs) (c := .lst (ds.map .dat)) hl ⟨xs, upd_same, dats_srs h2⟩) rfl⟩
  · obtain ⟨p, xs, rfl, h1, h2⟩ := sr_tup r1
    exact ⟨p, xs, rfl, .inr (same_t a.same h1), fun l hl => q _ _ _ _ _ (h l) (Same.refl F) (a.new (o := .lst xs) (c := .lst (ds.map .dat)) hl ⟨xs, upd_same, dats_srs h2⟩) rfl⟩
theorem cw_tupD {ds : List PyData} {d : PyData} (hd : d = .list ds ∨ d = .tuple ds) (h : k A (.dat (.tuple ds))) : CW K (rTupD2 K) [.dat d] A k := fun R F H vs Q a r q => by
  obtain ⟨v, rfl, r1⟩ := one_of r
  rcases hd with rfl | rfl
  · obtain ⟨p, xs, rfl, h1, h2⟩ := sr_lst r1
    refine ⟨p, xs, rfl, .inl ⟨.inl (.inl (a.same _ _ h1)), fun l hl => ?_⟩⟩
    obtain ⟨a2, e2⟩ := a.alloc (o := .tup xs) hl
    exact q A _ _ _ _ h e2 a2 (.tup (SqT.of upd_same) (h2.mono e2))
  · obtain ⟨p, xs, rfl, h1, h2⟩ := sr_tup r1
    exact ⟨p, xs, rfl, .inr ⟨same_t a.same h1, q A _ _ F H h (Same.refl F) a r1⟩⟩
/-- tuple(x) of an owned list of data -/
theorem cw_tupP {p : Addr} {ds : List PyData} (hp : (p, .lst (ds.map .dat)) ∈ A.cells) (h : k A (.dat (.tuple ds))) : CW K (rTupD2 K) [.ptr p] A k := fun R F H vs Q a r q => by
  obtain ⟨v, rfl, r1⟩ := one_of r
  obtain rfl : v = .ref p := r1
  obtain ⟨xs, h1, h2⟩ := a.cellD hp
  refine ⟨p, xs, rfl, .inl ⟨.inl (.inl h1), fun l hl => ?_⟩⟩
  obtain ⟨a2, e2⟩ := a.alloc (o := .tup xs) hl
  exact q A _ _ _ _ h e2 a2 (.tup (SqT.of upd_same) (h2.mono e2))
theorem dt_mem {F : Hp} : ∀ {xs : List V} {ds : List PyData}, DtAll K F xs ds → ∀ p ∈ xs.zip ds, Dt K F p.1 p.2
  | _, _, .nil, p, h => by simp at h
  | _, _, .cons h t, p, hp => by
    rw [List.zip_cons_cons] at hp
    rcases List.mem_cons.mp hp with rfl | hp
    · exact h
    · exact dt_mem t p hp
theorem dt_of {F : Hp} : ∀ {zs : List (V × PyData)}, (∀ p ∈ zs, Dt K F p.1 p.2) → DtAll K F (zs.map Prod.fst) (zs.map Prod.snd)
  | [], _ => .nil
  | z :: zs, h => .cons (h z List.mem_cons_self) (dt_of fun p hp => h p (List.mem_cons_of_mem _ hp))
theorem dpall_of {F : Hp} : ∀ {xs : List V} {ds : List PyData}, DtAll K F xs ds → (∀ d ∈ ds, d.hasDict = false) → DpAll K F xs ds
  | _, _, .nil, _ => .nil
  | _, _, .cons h t, n => .cons (h.dp (n _ List.mem_cons_self)) (dpall_of t fun d hd => n d (List.mem_cons_of_mem _ hd))
mutual
theorem nd_alike : ∀ d : PyData, PySem.W.alike d d = true → d.hasDict = false
  | .none, _ => by simp only [PyData.hasDict]
  | .bool _, _ => by simp only [PyData.hasDict]
  | .int _, _ => by simp only [PyData.hasDict]
  | .str _, _ => by simp only [PyData.hasDict]
  | .list xs, h => by simp only [PyData.hasDict]; exact nd_alikeA xs (by simpa only [PySem.W.alike] using h)
  | .tuple xs, h => by simp only [PyData.hasDict]; exact nd_alikeA xs (by simpa only [PySem.W.alike] using h)
  | .dict _, h => by simp [PySem.W.alike] at h
theorem nd_alikeA : ∀ xs : List PyData, PySem.W.alikeAll xs xs = true → PyData.hasDictAll xs = false
  | [], _ => by simp only [PyData.hasDictAll]
  | x :: xs, h => by
    simp only [PySem.W.alikeAll, Bool.and_eq_true] at h
    simp only [PyData.hasDictAll, nd_alike x h.1, nd_alikeA xs h.2, Bool.or_false]
end
theorem sort_dt {F : Hp} {xs : List V} {ds : List PyData} (h : DtAll K F xs ds) : DtAll K F (((xs.zip ds).mergeSort (PySem.W.dataLe false Prod.snd)).map Prod.fst) (dsort ds) := by
  have e : ((xs.zip ds).mergeSort (PySem.W.dataLe false Prod.snd)).map Prod.snd = dsort ds := by
    rw [PySem.W.sort_maps (r := PySem.W.dataLe false Prod.snd) (s := PySem.W.dataLe false id) Prod.snd (fun _ _ _ _ => rfl), List.map_snd_zip (by rw [h.length]; exact Nat.le_refl _)]
  rw [← e]
  exact dt_of fun p hp => dt_mem h p ((List.mergeSort_perm _ _).mem_iff.mp hp)
/-- sorted(x) of a list of data: a new list, one's own -/
theorem cw_sortL {ds : List PyData} (hal : PySem.W.AllAlike ds) (hk : PySem.W.Sortable ds) (hdep : ∀ d ∈ ds, d.depth ≤ 60) (h : ∀ p, k (A.add p (.lst ((dsort ds).map .dat))) (.ptr p)) : CW K (rSortedD K) [.dat (.list ds)] A k := fun R F H vs Q a r q => by
  obtain ⟨v, rfl, r1⟩ := one_of r
  obtain ⟨p, xs, rfl, h1, h2⟩ := sr_lst r1
  exact ⟨p, xs, ds, rfl, .inl (.inl (a.same _ _ h1)), dpall_of (h2.mono a.same) (fun d hd => nd_alike d (hal d hd d hd)), hal, hk, hdep, fun l hl => q _ _ _ _ _ (h l) (Same.refl F) (a.new (o := .lst _) (c := .lst ((dsort ds).map .dat)) hl ⟨_, upd_same, dats_srs (sort_dt h2)⟩) rfl⟩
theorem cw_sortP {p : Addr} {ds : List PyData} (hp : (p, .lst (ds.map .dat)) ∈ A.cells) (hal : PySem.W.AllAlike ds) (hk : PySem.W.Sortable ds) (hdep : ∀ d ∈ ds, d.depth ≤ 60) (h : ∀ p, k (A.add p (.lst ((dsort ds).map .dat))) (.ptr p)) : CW K (rSortedD K) [.ptr p] A k := fun R F H vs Q a r q => by
  obtain ⟨v, rfl, r1⟩ := one_of r
  obtain rfl : v = .ref p := r1
  obtain ⟨xs, h1, h2⟩ := a.cellD hp
  exact ⟨p, xs, ds, rfl, .inl (.inl h1), dpall_of (h2.mono a.same) (fun d hd => nd_alike d (hal d hd d hd)), hal, hk, hdep, fun l hl => q _ _ _ _ _ (h l) (Same.refl F) (a.new (o := .lst _) (c := .lst ((dsort ds).map .dat)) hl ⟨_, upd_same, dats_srs (sort_dt h2)⟩) rfl⟩

/-! ### methods of owned lists -/
/-- xs.append(e) -/
theorem wp_append (h : Wp K A ta S fun A1 s => ∃ p xs, s = .ptr p ∧ (p, .lst xs) ∈ A1.cells ∧ Wp K A1 te S fun A2 s2 => ∃ xs l', Upd A2.cells p (.lst xs) (.lst (xs ++ [s2])) l' ∧ xs.length < sizeLine ∧ k ⟨A2.I, l'⟩ (.dat .none)) :
    Wp K A (tBM K "list" rAppend ta (tCons te tNil)) S k := fun R F σ H Q a sd q =>
  h R F σ H _ a sd fun A1 s v F1 H1 ⟨p, xs, hs, hp, hw⟩ e1 a1 r1 => by
    subst hs
    obtain rfl : v = .ref p := r1
    obtain ⟨us, h1, h2⟩ := a1.cell hp
    refine ⟨.inl ⟨rfl, us, .inl (.inl h1)⟩, hw R F1 σ H1 _ a1 (sd.mono e1) fun A2 s2 w F2 H2 ⟨ys, l', hu, hl, hk⟩ e2 a2 r2 => ?_⟩
    obtain ⟨ws, h3, h4⟩ := a2.cell hu.mem
    refine ⟨p, ws, w, rfl, rfl, h3, by rw [h4.length]; exact hl, ?_⟩
    exact q _ _ _ _ _ hk (e1.trans e2) (a2.put hu ⟨_, upd_same, papp h4 (.cons r2 .nil)⟩) .non
theorem paired_last {α β : Type} {R : α → β → Prop} {as : List α} {bs : List β} (h : Paired R as bs) {b : β} (e : bs[bs.length - 1]? = some b) : ∃ a, as[as.length - 1]? = some a ∧ R a b := by
  rw [h.length]
  exact pget h e
theorem paired_init {α β : Type} {R : α → β → Prop} : ∀ {as : List α} {bs : List β}, Paired R as bs → Paired R as.dropLast bs.dropLast
  | _, _, .nil => .nil
  | _, _, .cons _ .nil => .nil
  | _, _, .cons r (.cons r2 t) => .cons r (paired_init (.cons r2 t))
theorem paired_erase {α β : Type} {R : α → β → Prop} : ∀ {as : List α} {bs : List β} (k : Nat), Paired R as bs → Paired R (as.eraseIdx k) (bs.eraseIdx k)
  | _, _, _, .nil => .nil
  | _, _, 0, .cons _ t => t
  | _, _, k + 1, .cons r t => .cons r (paired_erase k t)
/-- xs.pop() -/
theorem wp_pop (h : Wp K A ta S fun A1 s => ∃ p xs x l', s = .ptr p ∧ Upd A1.cells p (.lst xs) (.lst xs.dropLast) l' ∧ xs[xs.length - 1]? = some x ∧ k ⟨A1.I, l'⟩ x) : Wp K A (tBM0 K "list" rPop ta) S k := fun R F σ H Q a sd q =>
  h R F σ H _ a sd fun A1 s v F1 H1 ⟨p, xs, x, l', hs, hu, hx, hk⟩ e1 a1 r1 => by
    subst hs
    obtain rfl : v = .ref p := r1
    obtain ⟨us, h1, h2⟩ := a1.cell hu.mem
    obtain ⟨w, h3, h4⟩ := paired_last h2 hx
    exact ⟨.inl ⟨rfl, us, .inl (.inl h1)⟩, p, us, w, rfl, rfl, h1, h3, q _ _ _ _ _ hk e1 (a1.put hu ⟨_, upd_same, paired_init h2⟩) h4⟩
/-- xs.clear() -/
theorem wp_clear (h : Wp K A ta S fun A1 s => ∃ p xs l', s = .ptr p ∧ Upd A1.cells p (.lst xs) (.lst []) l' ∧ k ⟨A1.I, l'⟩ (.dat .none)) : Wp K A (tBM0 K "list" rClear ta) S k := fun R F σ H Q a sd q =>
  h R F σ H _ a sd fun A1 s v F1 H1 ⟨p, xs, l', hs, hu, hk⟩ e1 a1 r1 => by
    subst hs
    obtain rfl : v = .ref p := r1
    obtain ⟨us, h1, h2⟩ := a1.cell hu.mem
    exact ⟨.inl ⟨rfl, us, .inl (.inl h1)⟩, p, us, rfl, rfl, h1, q _ _ _ _ _ hk e1 (a1.put hu ⟨_, upd_same, .nil⟩) .non⟩

/-! ### owned dicts -/
def lookS {κ : Type} [DecidableEq κ] (kvs : List (κ × SV)) (x : κ) : Option SV := (kvs.find? fun kv => decide (kv.1 = x)).map (·.2)
def putS {κ : Type} [DecidableEq κ] (kvs : List (κ × SV)) (x : κ) (v : SV) : List (κ × SV) :=
  if (kvs.any fun kv => decide (kv.1 = x)) = true then kvs.map (fun kv => if kv.1 = x then (kv.1, v) else kv) else kvs ++ [(x, v)]
section
variable {κ : Type} [DecidableEq κ] {F : Hp}
theorem kvr_look : ∀ {vs : List (κ × V)} {kvs : List (κ × SV)} {x : κ}, KVR K F vs kvs → (∀ s, lookS kvs x = some s → ∃ v, valV vs x = some v ∧ SR K F v s) ∧ (lookS kvs x = none → valV vs x = none)
  | _, _, x, .nil => ⟨fun s h => (by cases h), fun _ => rfl⟩
  | _, _, x, .cons (a := a) (b := b) (l₁ := l₁) (l₂ := l₂) r t => by
    obtain ⟨r1, r2⟩ := r
    have e1 : valV (a :: l₁) x = if a.1 = x then some a.2 else valV l₁ x := by
      unfold valV
      rw [List.find?_cons]
      by_cases h : a.1 = x
      · simp [h]
      · simp [h]
    have e2 : lookS (b :: l₂) x = if b.1 = x then some b.2 else lookS l₂ x := by
      unfold lookS
      rw [List.find?_cons]
      by_cases h : b.1 = x
      · simp [h]
      · simp [h]
    rw [e1, e2, ← r1]
    obtain ⟨i1, i2⟩ := kvr_look (x := x) t
    by_cases h : a.1 = x
    · rw [if_pos h, if_pos h]
      exact ⟨fun s e => ⟨a.2, rfl, by rw [← Option.some.inj e]; exact r2⟩, fun e => (by cases e)⟩
    · rw [if_neg h, if_neg h]
      exact ⟨i1, i2⟩
theorem kvr_any {x : κ} : ∀ {vs : List (κ × V)} {kvs : List (κ × SV)}, KVR K F vs kvs → (vs.any fun kv => decide (kv.1 = x)) = kvs.any fun kv => decide (kv.1 = x)
  | _, _, .nil => rfl
  | _, _, .cons r t => by
    rw [List.any_cons, List.any_cons, kvr_any t, r.1]
theorem kvr_map {x : κ} {v : V} {s : SV} (r : SR K F v s) : ∀ {vs : List (κ × V)} {kvs : List (κ × SV)}, KVR K F vs kvs → KVR K F (vs.map fun kv => if kv.1 = x then (kv.1, v) else kv) (kvs.map fun kv => if kv.1 = x then (kv.1, s) else kv)
  | _, _, .nil => .nil
  | _, _, .cons (a := a) (b := b) q t => by
    refine .cons ?_ (kvr_map r t)
    show (if a.1 = x then (a.1, v) else a).1 = (if b.1 = x then (b.1, s) else b).1 ∧ SR K F (if a.1 = x then (a.1, v) else a).2 (if b.1 = x then (b.1, s) else b).2
    by_cases h : a.1 = x
    · have hb : b.1 = x := q.1 ▸ h
      rw [if_pos h, if_pos hb]
      exact ⟨q.1, r⟩
    · have hb : ¬ b.1 = x := q.1 ▸ h
      rw [if_neg h, if_neg hb]
      exact q
theorem kvr_put {vs : List (κ × V)} {kvs : List (κ × SV)} {x : κ} {v : V} {s : SV} (h : KVR K F vs kvs) (r : SR K F v s) : KVR K F (putK vs x v) (putS kvs x s) := by
  unfold putK putS
  rw [kvr_any h]
  split
  · exact kvr_map r h
  · exact papp h (.cons ⟨rfl, r⟩ .nil)
end
theorem keyD_v {F : Hp} {v : V} {x : Key} (r : SR K F v (.dat (keyD x))) : v = kV x := by
  cases x with
  | inl i => exact sr_int r
  | inr z => exact sr_str r
/-- d[k], k there -/
theorem wp_dget (h : Wp K A td S fun A1 s => Wp K A1 ty S fun A2 s2 => ∃ p kvs x v, s = .ptr p ∧ s2 = .dat (keyD x) ∧ (p, .dk kvs) ∈ A2.cells ∧ lookS kvs x = some v ∧ k A2 v) : Wp K A (tDGet td ty) S k := fun R F σ H Q a sd q =>
  h R F σ H _ a sd fun A1 s v F1 H1 h1 e1 a1 r1 => h1 R F1 σ H1 _ a1 (sd.mono e1) fun A2 s2 w F2 H2 ⟨p, kvs, x, z, hs, hs2, hp, hz, hk⟩ e2 a2 r2 => by
    subst hs; subst hs2
    obtain rfl : v = .ref p := r1
    obtain rfl := keyD_v r2
    obtain ⟨vs, h3, h4⟩ := a2.cell hp
    obtain ⟨y, h5, h6⟩ := (kvr_look h4).1 z hz
    exact ⟨p, y, rfl, by rw [← h5]; exact DGet.k h3, q A2 _ _ F2 H2 hk (e1.trans e2) a2 h6⟩
/-- d[k] = v -/
theorem go_dput (h : Wp K A tv S fun A1 s => Wp K A1 td S fun A2 s2 => Wp K A2 ty S fun A3 s3 => ∃ p kvs x l', s2 = .ptr p ∧ s3 = .dat (keyD x) ∧ Upd A3.cells p (.dk kvs) (.dk (putS kvs x s)) l' ∧ kvs.length < sizeLine ∧ E.nx ⟨A3.I, l'⟩ S) : Go K A (sDPut td ty tv) S E := fun R F σ H D a sd o =>
  h R F σ H _ a sd fun A1 s v F1 H1 h1 e1 a1 r1 => h1 R F1 σ H1 _ a1 (sd.mono e1) fun A2 s2 w F2 H2 h2 e2 a2 r2 => h2 R F2 σ H2 _ a2 ((sd.mono e1).mono e2) fun A3 s3 u F3 H3 ⟨p, kvs, x, l', hs, hs2, hu, hl, hk⟩ e3 a3 r3 => by
    subst hs; subst hs2
    obtain rfl : w = .ref p := r2
    obtain rfl := keyD_v r3
    obtain ⟨vs, h3, h4⟩ := a3.cell hu.mem
    exact ⟨p, _, rfl, DPut.k h3 (by rw [h4.length]; exact hl), o.nx _ _ _ _ _ hk ((e1.trans e2).trans e3) (a3.put hu ⟨_, upd_same, kvr_put h4 (r1.mono (e2.trans e3))⟩) (sd.mono ((e1.trans e2).trans e3))⟩

/-! ### defs -/
/-- a def's promise, told by data: W of arguments, what is owned, and what is wanted of the answer -/
def spW (K : PySem.W.Frag) (W : List SV → Amb → KA → Prop) : Sp := fun vs H Q _ => ∃ A R F ss k, AtR K A R F H ∧ SRs K F vs ss ∧ W ss A k ∧ OutV K R F Q k
theorem wp_call {W : List SV → Amb → KA → Prop} {EX : XK} {ta : TA} (h : WpA K A ta S fun A1 ss => W ss A1 k) : Wp K A (tCall (spW K W) [] EX ta) S k := fun R F σ H Q a sd q =>
  h R F σ H _ a sd fun A1 ss vs F1 H1 h1 e1 a1 r1 => by
    show spW K W (vs ++ []) H1 Q EX
    rw [List.append_nil]
    exact ⟨A1, R, F1, ss, k, a1, r1, h1, q.mono e1⟩
theorem wp_callK {W : List SV → Amb → KA → Prop} {EX : XK} {ta tk : TA} {gV : List V → List V → List V} (gS : List SV → List SV → List SV) (hg : ∀ F vs ws ss ts, SRs K F vs ss → SRs K F ws ts → SRs K F (gV vs ws) (gS ss ts))
    (h : WpA K A ta S fun A1 ss => WpA K A1 tk S fun A2 ts => W (gS ss ts) A2 k) : Wp K A (tCallK (spW K W) gV EX ta tk) S k := fun R F σ H Q a sd q =>
  h R F σ H _ a sd fun A1 ss vs F1 H1 h1 e1 a1 r1 => h1 R F1 σ H1 _ a1 (sd.mono e1) fun A2 ts ws F2 H2 h2 e2 a2 r2 => ⟨A2, R, F2, _, k, a2, hg _ _ _ _ _ (SRs.mono e2 r1) r2, h2, q.mono (e1.trans e2)⟩
theorem fn_go {P : Program} {w : World} {mg : Str → Option Value} {base : Heap} {x qual : Str} {st : Stmt} {f : Addr} {fd : FuncData} {N ps : List Str} {n : Nat} {W : List SV → Amb → KA → Prop} (F : Fun K x qual st f fd) (Sc : FnScope N ps (defScope st))
    (len : ∀ ss A k, W ss A k → ss.length = ps.length)
    (hbody : ∀ (cdv : Value) (A : Around) (outer : List Env) (s : Shared) (H : Hp) (E : XK), Room n (A.deeper (PyProof.Rows.envOfC qual (defScope st) s.heap.objs.size f cdv)) →
      ∃ t, PSs (cxOf CX0 P w K mg base N qual (defScope st) f cdv A outer s H E).nox (defBody st) t ∧ ∀ ss A k, W ss A k → Go K A t (ss ++ List.replicate (N.length - ss.length) .no) ⟨fun A1 _ => k A1 (.dat .none), fun _ _ => False, fun _ _ => False, k⟩) :
    FnOk P w K mg base CX0 (n + 1) f fd ps (spW K W) := by
  refine F.ok Sc (fun vs H Q E h => ?_) (fun cdv A outer s H vs Q E hr h => ?_)
  · obtain ⟨B, R, G, ss, k, a, r, hw, q⟩ := h
    rw [r.length]
    exact len ss B k hw
  · obtain ⟨B, R, G, ss, k, a, r, hw, q⟩ := h
    obtain ⟨t, ht, go⟩ := hbody cdv A outer s H E hr
    refine ⟨t, ht, go ss B k hw R G _ H _ a (SD.start N r) ⟨fun A1 S1 F1 σ1 H1 h1 e1 a1 _ => q A1 _ _ F1 H1 h1 e1 a1 .non, fun A1 S1 F1 σ1 H1 h1 => h1.elim, fun A1 S1 F1 σ1 H1 h1 => h1.elim, q⟩⟩

/-! ### blocks -/
theorem paired_hh {F F' H H' : Hp} (e : Same F F') : ∀ {ps : List Addr} {cs : List Cell}, Paired (fun p c => CellAt K F H p c) ps cs → (∀ c ∈ ps, H' c = H c) → Paired (fun p c => CellAt K F' H' p c) ps cs
  | _, _, .nil, _ => .nil
  | _, _, .cons r t, hh => .cons (r.mono e (hh _ List.mem_cons_self)) (paired_hh e t fun c hc => hh c (List.mem_cons_of_mem _ hc))
theorem paired_here {F H : Hp} {c : Addr} : ∀ {ps : List Addr} {cs : List Cell}, Paired (fun p c => CellAt K F H p c) ps cs → c ∈ ps → H c ≠ none
  | _, _, .nil, hm => by simp at hm
  | _, _, .cons r t, hm => by
    rcases List.mem_cons.mp hm with e | hm
    · rw [e]
      exact r.here
    · exact paired_here t hm
def Blk.of (K : PySem.W.Frag) (ps : List Addr) (C : List Cell → Prop) : Blk where
  cs := ps
  G := fun F H => ps.Nodup ∧ ∃ cs, C cs ∧ Paired (fun p c => CellAt K F H p c) ps cs
  ext := fun {F F' H H'} e hh ⟨nd, cs, hc, hp⟩ => ⟨nd, cs, hc, by
    exact paired_hh e hp hh⟩
  here := fun {F H c} ⟨nd, cs, hc, hp⟩ hm => paired_here hp hm
theorem paired_zip {α β : Type} {R : α → β → Prop} : ∀ {as : List α} {bs : List β}, Paired R as bs → ∀ p ∈ as.zip bs, R p.1 p.2
  | _, _, .nil, p, h => by simp at h
  | _, _, .cons h t, p, hp => by
    rw [List.zip_cons_cons] at hp
    rcases List.mem_cons.mp hp with rfl | hp
    · exact h
    · exact paired_zip t p hp
theorem AtR.open {ps : List Addr} {C : List Cell → Prop} {l R : List (Addr × Cell)} {F H : Hp} (a : AtR K ⟨Blk.of K ps C, l⟩ R F H) : ∃ cs, C cs ∧ cs.length = ps.length ∧ AtR K ⟨Blk.nil, ps.zip cs ++ l⟩ R F H := by
  obtain ⟨nd, cs, hc, hp⟩ := a.blk
  refine ⟨cs, hc, hp.length.symm, a.same, trivial, fun c hc => by simp [Blk.nil] at hc, fun p c h => ?_, ?_⟩
  · have h' : (p, c) ∈ ps.zip cs ++ l ++ R := h
    rw [List.append_assoc] at h'
    rcases List.mem_append.mp h' with h1 | h1
    · exact ⟨a.bfree p (List.of_mem_zip h1).1, by simp [Blk.nil], paired_zip hp _ h1⟩
    · obtain ⟨f1, f2, f3⟩ := At.cell a p c h1
      exact ⟨f1, by simp [Blk.nil], f3⟩
  · show ((ps.zip cs ++ l ++ R).map (·.1)).Nodup
    rw [List.append_assoc, List.map_append, List.map_fst_zip (by rw [hp.length]; exact Nat.le_refl _)]
    refine List.nodup_append.mpr ⟨nd, a.nd, fun x hx y hy e => ?_⟩
    obtain ⟨⟨q, c⟩, hq, rfl⟩ := List.mem_map.mp hy
    subst e
    exact (At.cell a _ _ hq).2.1 hx
theorem paired_of_zip {ps : List Addr} {cs : List Cell} {F H : Hp} (hl : ps.length = cs.length) (h : ∀ p ∈ ps.zip cs, CellAt K F H p.1 p.2) : Paired (fun p c => CellAt K F H p c) ps cs := by
  induction ps generalizing cs with
  | nil =>
    cases cs with
    | nil => exact .nil
    | cons c cs => simp at hl
  | cons p ps ih =>
    cases cs with
    | nil => simp at hl
    | cons c cs => exact .cons (h (p, c) (by simp)) (ih (by simpa using hl) fun q hq => h q (by simp [hq]))
theorem AtR.close {ps : List Addr} {C : List Cell → Prop} {cs : List Cell} {l R : List (Addr × Cell)} {F H : Hp} (hc : C cs) (hl : cs.length = ps.length) (a : AtR K ⟨Blk.nil, ps.zip cs ++ l⟩ R F H) : AtR K ⟨Blk.of K ps C, l⟩ R F H := by
  have nd : (ps ++ (l ++ R).map (·.1)).Nodup := by
    have h := a.nd
    have h' : ((ps.zip cs ++ l ++ R).map (·.1)).Nodup := h
    rw [List.append_assoc, List.map_append, List.map_fst_zip (by rw [hl]; exact Nat.le_refl _)] at h'
    exact h'
  obtain ⟨n1, n2, n3⟩ := List.nodup_append.mp nd
  refine ⟨a.same, ⟨n1, cs, hc, paired_of_zip hl.symm fun q hq => (At.cell a q.1 q.2 (List.mem_append_left _ (List.mem_append_left _ hq))).2.2⟩, fun c hcs => ?_, fun p c h => ?_, n2⟩
  · have hcs' : c ∈ ps := hcs
    obtain ⟨i, hi, rfl⟩ := List.getElem_of_mem hcs'
    have hi2 : i < cs.length := by omega
    have hz : (ps[i], cs[i]) ∈ ps.zip cs := by
      refine List.mem_iff_getElem.mpr ⟨i, by rw [List.length_zip]; omega, ?_⟩
      simp
    exact (At.cell a _ _ (List.mem_append_left _ (List.mem_append_left _ hz))).1
  · have h' : (p, c) ∈ l ++ R := h
    have h2 : (p, c) ∈ ps.zip cs ++ l ++ R := by
      rw [List.append_assoc]
      exact List.mem_append_right _ h'
    obtain ⟨f1, _, f3⟩ := At.cell a p c h2
    exact ⟨f1, fun hp => n3 p hp p (List.mem_map.mpr ⟨(p, c), h', rfl⟩) rfl, f3⟩
def closeS (K : PySem.W.Frag) (ps : List Addr) (C : List Cell → Prop) (k : KS) : KS := fun A S => ∃ cs l, A = ⟨Blk.nil, ps.zip cs ++ l⟩ ∧ cs.length = ps.length ∧ C cs ∧ k ⟨Blk.of K ps C, l⟩ S
def closeV (K : PySem.W.Frag) (ps : List Addr) (C : List Cell → Prop) (k : KA) : KA := fun A s => ∃ cs l, A = ⟨Blk.nil, ps.zip cs ++ l⟩ ∧ cs.length = ps.length ∧ C cs ∧ k ⟨Blk.of K ps C, l⟩ s
@[reducible] def DE.close (K : PySem.W.Frag) (ps : List Addr) (C : List Cell → Prop) (E : DE) : DE := ⟨closeS K ps C E.nx, closeS K ps C E.bk, closeS K ps C E.ct, closeV K ps C E.rt⟩
theorem go_open {ps : List Addr} {C : List Cell → Prop} {l : List (Addr × Cell)} (h : ∀ cs, C cs → cs.length = ps.length → Go K ⟨Blk.nil, ps.zip cs ++ l⟩ tu S (E.close K ps C)) : Go K ⟨Blk.of K ps C, l⟩ tu S E := fun R F σ H D a sd o => by
  obtain ⟨cs, hc, hl, a2⟩ := a.open
  refine h cs hc hl R F σ H D a2 sd ⟨fun A1 S1 F1 σ1 H1 ⟨cs1, l1, e1, e2, e3, e4⟩ e5 a5 sd5 => ?_, fun A1 S1 F1 σ1 H1 ⟨cs1, l1, e1, e2, e3, e4⟩ e5 a5 sd5 => ?_, fun A1 S1 F1 σ1 H1 ⟨cs1, l1, e1, e2, e3, e4⟩ e5 a5 sd5 => ?_, fun A1 s1 v1 F1 H1 ⟨cs1, l1, e1, e2, e3, e4⟩ e5 a5 r5 => ?_⟩
  · subst e1
    exact o.nx _ _ _ _ _ e4 e5 (a5.close e3 e2) sd5
  · subst e1
    exact o.bk _ _ _ _ _ e4 e5 (a5.close e3 e2) sd5
  · subst e1
    exact o.ct _ _ _ _ _ e4 e5 (a5.close e3 e2) sd5
  · subst e1
    exact o.rt _ _ _ _ _ e4 e5 (a5.close e3 e2) r5
/-- owned objects become a block -/
theorem go_seal {ps : List Addr} {C : List Cell → Prop} {cs : List Cell} {l : List (Addr × Cell)} (hc : C cs) (hl : cs.length = ps.length) (h : Go K ⟨Blk.of K ps C, l⟩ tu S E) : Go K ⟨Blk.nil, ps.zip cs ++ l⟩ tu S E := fun R F σ H D a sd o => h R F σ H D (a.close hc hl) sd o
end
end DL

/-! The data layer: the law's own def, called at the top, where nothing is being shown (so repr may be told); repr, isinstance. -/
namespace DL
open PySem L2

/-! ### repr, isinstance -/
def rReprD (K : PySem.W.Frag) : List V → Hp → VK → Prop := fun vs H Q => ∃ (v : V) (d : PyData), vs = [v] ∧ Dt K H v d ∧ d.showable = true ∧ (d.hasDict = true → noLst d = true) ∧ d.depth ≤ 60 ∧ d.shown.length ≤ sizeLine ∧ Q (.str d.shown) H
section
variable {X : Cx}
theorem sysNone {pins : List (Addr × Obj)} {σ : St} {H : Hp} {s : Shared} (I : Inv X pins σ H s) {o : Obj} (h : X.K.lookup sysModules = some o) : H sysModules = none := (I.bs _ _ (I.mod.kin _ _ h)).2
theorem cr_reprD (hu : X.A.units + 65 < cLine) (hg : X.A.guards = some []) : CallR X (.builtin "repr") (rReprD X.K) := by
  intro pins s σ H vs us Q I r h
  obtain ⟨v, d, rfl, hd, hs, hn, hdep, hz, q⟩ := h
  cases r with
  | cons r1 r2 =>
    cases r2
    rename_i u
    obtain ⟨as, hr, hns⟩ := Dt.reads I hd r1
    cases hr with
    | none => exact PySem.P.repr_of_none ⟨.str "None", H, I.tok _, ⟨_, rfl⟩, q⟩
    | bool b => exact PySem.P.repr_of_bool ⟨.str (if b then "True" else "False"), H, I.tok _, ⟨_, rfl⟩, q⟩
    | int i t => exact PySem.P.repr_of_int (by simpa [PyData.showable] using hs) ⟨.str (toString i), H, I.tok _, ⟨_, rfl⟩, q⟩
    | str x t => exact PySem.P.repr_of_str ⟨.str (reprText x), H, I.tok _, ⟨_, rfl⟩, q⟩ hz
    | list h1 h2 h3 h4 => exact repr_of_reads' (.list h1 h2 h3 h4) hs (fun z => hns (.inr (hn z))) hg (by omega) (fun _ _ e => e) (fun h' u tk hk => ⟨.str _, H, I.kept hk, ⟨u, rfl⟩, q⟩) hz
    | tuple h1 h2 h3 h4 => exact repr_of_reads' (.tuple h1 h2 h3 h4) hs (fun z => hns (.inr (hn z))) hg (by omega) (fun _ _ e => e) (fun h' u tk hk => ⟨.str _, H, I.kept hk, ⟨u, rfl⟩, q⟩) hz
    | dict h1 h2 h3 h4 h5 => exact repr_of_reads' (.dict h1 h2 h3 h4 h5) hs (fun z => hns (.inr (hn z))) hg (by omega) (fun _ _ e => e) (fun h' u tk hk => ⟨.str _, H, I.kept hk, ⟨u, rfl⟩, q⟩) hz
def isK (T : String) (d : PyData) : Bool := match T with
  | "list" => d.isList
  | "tuple" => d.isTuple
  | "str" => d.isStr
  | "int" => d.isInt
  | "bool" => d.isBool
  | "dict" => d.isDict
  | _ => false
def kinds : List String := ["list", "tuple", "str", "int", "bool", "dict"]
def rIsiD (K : PySem.W.Frag) : List V → Hp → VK → Prop := fun vs H Q => ∃ (x : V) (T : String) (d : PyData), vs = [x, .ty T] ∧ T ∈ kinds ∧ Dt K H x d ∧ Q (.bl (isK T d)) H
theorem call_isiD : CallR X (.builtin "isinstance") (rIsiD X.K) := by
  intro pins s σ H vs us Q I r h
  obtain ⟨x, T, d, rfl, hT, hd, q⟩ := h
  cases r with
  | cons r1 r2 =>
    cases r2 with
    | cons r3 r4 =>
      cases r4
      rename_i u1 u2
      obtain rfl : u2 = Value.type T := r3
      obtain ⟨as, hr, _⟩ := Dt.reads I hd r1
      simp only [kinds, List.mem_cons, List.not_mem_nil, or_false] at hT
      rcases hT with rfl | rfl | rfl | rfl | rfl | rfl
      · exact PySem.W.isinstance_list_data hr fun tk _ => ⟨.bl d.isList, H, I.tok tk, rfl, q⟩
      · exact PySem.W.isinstance_tuple_data hr fun tk _ => ⟨.bl d.isTuple, H, I.tok tk, rfl, q⟩
      · exact PySem.W.isinstance_str_data hr fun tk _ => ⟨.bl d.isStr, H, I.tok tk, rfl, q⟩
      · exact PySem.W.isinstance_int_data hr fun tk _ => ⟨.bl d.isInt, H, I.tok tk, rfl, q⟩
      · exact PySem.W.isinstance_bool_data hr fun tk _ => ⟨.bl d.isBool, H, I.tok tk, rfl, q⟩
      · exact PySem.W.isinstance_dict_data hr fun tk _ => ⟨.bl d.isDict, H, I.tok tk, rfl, q⟩
end
section
variable {K : PySem.W.Frag} {A A' : Amb} {S S' : List SV} {k k' : KA} {ta tb te td ty tv : TE} {t u : TT} {s s1 s2 : SV} {E : DE} {tu tw : TS}
theorem wp_isi {T : String} (hT : T ∈ kinds) (h : Wp K A ta S fun A1 s => ∃ d, s = .dat d ∧ k A1 (.dat (.bool (isK T d)))) : Wp K A (tCB (rIsiD K) (tCons ta (tCons (tC (.ty T)) tNil))) S k := fun R F σ H Q a sd q =>
  h R F σ H _ a sd fun A1 s v F1 H1 ⟨d, hs, hk⟩ e1 a1 r1 => by
    subst hs
    exact ⟨v, T, d, rfl, hT, Dt.mono a1.same r1, q A1 _ _ F1 H1 hk e1 a1 (.bl _)⟩
/-- isinstance of an owned list -/
theorem wp_isiP {T : String} (hT : T ∈ kinds) (h : Wp K A ta S fun A1 s => ∃ p ds, s = .ptr p ∧ (p, .lst (ds.map .dat)) ∈ A1.cells ∧ k A1 (.dat (.bool (isK T (.list ds))))) : Wp K A (tCB (rIsiD K) (tCons ta (tCons (tC (.ty T)) tNil))) S k := fun R F σ H Q a sd q =>
  h R F σ H _ a sd fun A1 s v F1 H1 ⟨p, ds, hs, hp, hk⟩ e1 a1 r1 => by
    subst hs
    obtain rfl : v = .ref p := r1
    exact ⟨_, T, .list ds, rfl, hT, a1.cellP hp, q A1 _ _ F1 H1 hk e1 a1 (.bl _)⟩
theorem nd_sys {d : PyData} {P : Prop} (hn : d.hasDict = false) : d.hasDict = true → P := fun h => by rw [hn] at h; cases h
theorem cw_reprD {d : PyData} (hs : d.showable = true) (hn : d.hasDict = false) (hd : d.depth ≤ 60) (hz : d.shown.length ≤ sizeLine) (h : k A (.dat (.str d.shown))) : CW K (rReprD K) [.dat d] A k := fun R F H vs Q a r q => by
  obtain ⟨v, rfl, r1⟩ := one_of r
  exact ⟨v, d, rfl, Dt.mono a.same r1, hs, nd_sys hn, hd, hz, q A _ _ F H h (Same.refl F) a (.str _)⟩
theorem cw_reprP {p : Addr} {ds : List PyData} (hp : (p, .lst (ds.map .dat)) ∈ A.cells) (hs : (PyData.list ds).showable = true) (hn : (PyData.list ds).hasDict = false) (hd : (PyData.list ds).depth ≤ 60) (hz : (PyData.list ds).shown.length ≤ sizeLine) (h : k A (.dat (.str (PyData.list ds).shown))) : CW K (rReprD K) [.ptr p] A k := fun R F H vs Q a r q => by
  obtain ⟨v, rfl, r1⟩ := one_of r
  obtain rfl : v = .ref p := r1
  exact ⟨_, _, rfl, a.cellP hp, hs, nd_sys hn, hd, hz, q A _ _ F H h (Same.refl F) a (.str _)⟩
end

/-! ### the law at the top -/
section
variable {P : Program} {w : World} {K : PySem.W.Frag} {mg mb : Str → Option Value} {fa a : Addr} {fd : FuncData} {x qual : Str} {st : Stmt} {N : List Str} {n : Nat} {s1 : Shared} {vs : List Value} {ns : List Int}
/-- what the law's body is to reach -/
abbrev TopE : DE := ⟨fun _ _ => False, fun _ _ => False, fun _ _ => False, fun _ s => s = .dat (.bool true)⟩
/-- the body of the law's def is a term whose reading goes, whatever the script -/
def LawGo (P : Program) (w : World) (K : PySem.W.Frag) (mg : Str → Option Value) (fa : Addr) (qual : Str) (st : Stmt) (N : List Str) (n m : Nat) : Prop :=
  ∀ (base : Heap) (cdv : Value) (s : Shared) (H : Hp), Room n (callerA.deeper (PyProof.Rows.envOfC qual (defScope st) s.heap.objs.size fa cdv)) →
    ∃ t, PSs (cxOf CX0 P w K mg base N qual (defScope st) fa cdv callerA [] s H E0).nox (defBody st) t ∧
      ∀ ns : List Int, ns.length ≤ m → (∀ z ∈ ns, Builtin.Int.intBits z ≤ 1048576) → Go K ⟨Blk.nil, []⟩ t (.scr ns :: List.replicate (N.length - 1) .no) TopE
theorem at_nil {H : Hp} : At K ⟨Blk.nil, []⟩ H H := ⟨Same.refl H, trivial, fun c hc => by simp [Blk.nil] at hc, fun p c h => by simp at h, List.nodup_nil⟩
/-- from a heap that knows of nothing but the script -/
theorem law_at {H : Hp} {m : Nat} (F : Fun K x qual st fa fd) (Sc : FnScope N ["script"] (defScope st)) (hb : ∀ (s : Shared) (u : Value), BindsTo s fd ⟨[u], []⟩ [("script", u)]) (hr : Room (n + 1) callerA) (L : LawGo P w K mg fa qual st N n m)
    (hl : ns.length ≤ m) (hbits : ∀ z ∈ ns, Builtin.Int.intBits z ≤ 1048576) {base : Heap} (e0 : Env0 P w K mg base callerA [] s1 H) (hS : SqL K H a (ns.map V.int)) :
    codeAny (model P w) callerA (.call (.ref fa) ⟨[.ref a], []⟩) (CR CX0 [] P w H s1 (fun v _ => v = .bl true) E0) s1 := by
  obtain ⟨oc, od, kV, doc, pm, an, cdv, ct, osl, rfl, lk, hcd⟩ := F.ex
  have KX : K.In s1.heap := e0.mod.kin.keeps fun b o e => (e0.bs b o e).1
  have lim : s1.heap.NoLimit := e0.mod.nolimit.keeps fun b o e => (e0.bs b o e).1
  have hk : ∀ y ∈ ([Str.ofString "script"] : List Str).zip [Value.ref a], (defScope st).names.lookup y.1 = some .local ∨ ((defScope st).names.lookup y.1 = some .cell ∧ ((PySem.cellsFrom (s1.heap.objs.size + 1) (defScope st).names []).lookup y.1).isSome = true) := by
    rintro ⟨z, u⟩ hy
    cases Sc.par z (List.of_mem_zip hy).1 with
    | inl q => exact .inl q
    | inr q => exact .inr ⟨q, PySem.W.cellsFrom_some _ _ _ (.inl q)⟩
  refine codeAny_call_function hr.depth (KX _ _ lk) rfl Sc.co Sc.gen rfl (PySem.W.codeRec_of KX hcd) (hb _ _ _ _ _ _ ?_)
  refine wpAny_newFunctionEnv_cells Sc.kind hk fun fr he s2 z => ?_
  subst he
  refine ⟨lim.keeps z.toInCall.keep, codeAny_func ?_⟩
  obtain ⟨t, ht, go⟩ := L base cdv s1 H (hr.deeper _)
  have hq : t { nx := fun _ H' => (fun v _ => v = V.bl true) V.non H', rt := fun v _ => v = .bl true } (L2.start N [.ref a]) H := by
    have sd : SD K H (L2.start N [.ref a]) (.scr ns :: List.replicate (N.length - 1) .no) := SD.start N (ss := [.scr ns]) (.cons ⟨a, rfl, hS⟩ .nil)
    exact go ns hl hbits [] H _ H _ at_nil sd ⟨fun _ _ _ _ _ h => h.elim, fun _ _ _ _ _ h => h.elim, fun _ _ _ _ _ h => h.elim, fun A s v F' H' h _ _ r => by
      have h' : s = .dat (.bool true) := h
      subst h'
      exact sr_bl r⟩
  have J : Inv (cxOf CX0 P w K mg base N qual (defScope st) fa cdv callerA [] s1 H E0) [] (L2.start N [.ref a]) H s2 := inv_start Sc hr.hd e0 rfl (.cons rfl .nil) z
  refine wpAny_mono (ht.nox.run [] s2 _ H _ J hq) (fun fl s' hs => ?_) fun e s' hs => hs
  cases fl with
  | ret u =>
    obtain ⟨v, σ', H', I', rv, q⟩ := hs
    exact ⟨v, H', I'.os, I'.bare, I'.base, I'.hok, rv, q⟩
  | next =>
    obtain ⟨σ', H', I', q⟩ := hs
    cases q
  | brk =>
    obtain ⟨_, _, _, q⟩ := hs
    exact q.elim
  | cont =>
    obtain ⟨_, _, _, q⟩ := hs
    exact q.elim
theorem env_at {H : Hp} (KX : K.In s1.heap) (hns : s1.heap.Ns mainGlobals mg) (hb : s1.heap.Ns builtinsNs mb) (hbb : ∀ x : Str, x ≠ "__name__" → mb x = bootBuiltins x) (hlim : s1.heap.NoLimit) (hg : s1.gens = #[])
    (ha : s1.heap.get? a = some { cls := .type "list", data := .seq vs.toArray }) (hok : HOk P w H s1.heap) (hA : ∀ b, H b ≠ none → b = a) (hK : H a ≠ none → K.lookup a = none) : Env0 P w K mg (hidT s1.heap H) callerA [] s1 H := by
  have dictFree : ∀ {b : Addr} {o : Obj} {es : Array DictEntry} {ep : Nat}, s1.heap.get? b = some o → o.data = .dict es ep → H b = none := by
    intro b o es ep e d
    cases q : H b with
    | none => rfl
    | some u =>
      have e' : b = a := hA b (by rw [q]; exact Option.some_ne_none u)
      rw [e', ha] at e
      rw [← Option.some.inj e] at d
      cases d
  have nsH : ∀ {b : Addr} {m : Str → Option Value}, s1.heap.Ns b m → (hidT s1.heap H).Ns b m := by
    rintro b m ⟨o, es, ep, e, d, r⟩
    exact ⟨o, es, ep, hidT_get e (dictFree e d), d, r⟩
  have kin : K.In (hidT s1.heap H) := by
    intro b o e
    refine hidT_get (KX b o e) ?_
    cases q : H b with
    | none => rfl
    | some u =>
      have e' : b = a := hA b (by rw [q]; exact Option.some_ne_none u)
      rw [e'] at e q
      rw [hK (by rw [q]; exact Option.some_ne_none u)] at e
      cases e
  refine ⟨rfl, ⟨kin, nsH hns, ⟨mb, nsH hb, hbb⟩, ?_⟩, fun b o e => of_hidT e, Nat.le_of_eq (hidT_size _ _), trivial, fun b hb => ?_, hok, .of_eq hg⟩
  · obtain ⟨mc, h1, h2⟩ := hlim
    exact ⟨mc, nsH h1, h2⟩
  · exact absurd (show b ∈ ([] : List Addr) from hb) (by simp)
end
theorem walk_top {l : PySem.W.OpenLaw} {n m : Nat} {q : Program} {loose : List Str} {XP : (Str → Option Value) → Heap → Prop} {YP : World → Heap → Prop} {d : DefRec} {K : Params → PySem.W.Frag}
    (hn : l.most = some m) (hn2 : m ≤ sizeLine) (hdf : d.params.defaults = []) (hr : Room (n + 1) callerA) (hY : ∀ (w : World) (h : Heap), YP w h → (K w.params).In h)
    (F : ∀ (w : World) (mg : Str → Option Value) (fa : Addr) (h : Heap), (K w.params).In h → h.Ns mainGlobals mg → mg d.name = some (.ref fa) → ∃ (x qual : Str) (st : Stmt) (fd : FuncData) (N : List Str),
      Fun (K w.params) x qual st fa fd ∧ FnScope N ["script"] (defScope st) ∧ (∀ (s : Shared) (u : Value), BindsTo s fd ⟨[u], []⟩ [("script", u)]) ∧ LawGo l.prog w (K w.params) mg fa qual st N n m) :
    PySem.W.WalkO q loose XP YP l.row.toRowW d [] (fun f vs => PySem.call f vs) := by
  refine Att.attach_callB hn hdf fun w s₀ s₁ mg mb fa o pm cd doc a vs ns G Y ho hd hcd hmg hobj hints hlen hbits hg => ?_
  have KX := hY w _ Y
  obtain ⟨x, qual, st, fd, N, f1, f2, f3, f4⟩ := F w mg fa _ KX G.T.g hmg
  have rv := vals_ints hints
  have hz : ns.length ≤ sizeLine := Nat.le_trans hlen hn2
  have fin : ∀ H : Hp, Only H → SqL (K w.params) H a (ns.map V.int) → HOk l.prog w H s₁.heap → (∀ b, H b ≠ none → b = a) → (H a ≠ none → (K w.params).lookup a = none) →
      codeAny (model l.prog w) callerA (.call (.ref fa) ⟨[.ref a], []⟩) (fun r s' => r = .ok (.ret (.bool true)) ∧ OldK s₁.heap s'.heap ∧ s'.os = s₁.os ∧ PyProof.Rows.AllBare s'.gens) s₁ := by
    intro H hO hS hok hA hK
    refine codeAny_mono (law_at f1 f2 f3 hr f4 hlen hbits (env_at KX G.T.g G.T.b G.T.builtins G.T.nolimit hg hobj hok hA hK) hS) fun r s' hq => ?_
    cases r with
    | error e => exact False.elim hq
    | ok fl =>
      cases fl with
      | next => exact False.elim hq
      | brk => exact False.elim hq
      | cont => exact False.elim hq
      | ret u =>
        obtain ⟨v, H', os, bare, un, hok', r', e⟩ := hq
        have e' : v = .bl true := e
        rw [e'] at r'
        have r2 : u = Value.bool true := r'
        rw [r2]
        refine ⟨rfl, OldK.of_keep fun b ob eb => ?_, os, bare⟩
        rcases hO b with z | ⟨oz, xs, z⟩
        · exact un.keep b ob eb z (by simp [frs]) (by simp)
        · have t1 := (hok b _ z).1
          have t2 := (hok' b _ (un.frzs b oz _ z)).1
          rw [eb] at t1
          rw [Option.some.inj t1]
          exact t2
  cases hk : (K w.params).lookup a with
  | some ob =>
    have e := KX a ob hk
    rw [hobj] at e
    rw [← Option.some.inj e] at hk
    refine fin (fun _ => none) (fun _ => .inl rfl) (.inr ⟨_, vs.toArray, _, hk, rfl, rfl, rfl, ?_, ?_⟩) (fun b u z => by cases z) (fun b z => absurd rfl z) fun z => absurd rfl z
    · rw [List.size_toArray, hints.length]
      exact hz
    · exact rv
  | none =>
    have one : ∀ {b : Addr} {u : HO}, (if b = a then some (HO.frz { cls := .type "list", data := .seq vs.toArray } (.lst (ns.map V.int))) else none) = some u → b = a ∧ u = HO.frz { cls := .type "list", data := .seq vs.toArray } (.lst (ns.map V.int)) := by
      intro b u z
      by_cases hb : b = a
      · rw [if_pos hb] at z
        exact ⟨hb, (Option.some.inj z).symm⟩
      · rw [if_neg hb] at z
        cases z
    refine fin (fun b => if b = a then some (HO.frz { cls := .type "list", data := .seq vs.toArray } (.lst (ns.map V.int))) else none) (fun b => ?_) (.inl (.inr ⟨_, if_pos rfl⟩)) (fun b u z => ?_) (fun b z => ?_) fun _ => hk
    · by_cases hb : b = a
      · exact .inr ⟨_, _, if_pos hb⟩
      · exact .inl (if_neg hb)
    · obtain ⟨e1, e2⟩ := one z
      subst e2
      subst e1
      exact ⟨hobj, by rw [List.length_map]; exact hz, vs, _, rv, hobj⟩
    · by_cases hb : b = a
      · exact hb
      · exact absurd (if_neg hb) z
end DL

/-! The data layer: comprehensions with two for. -/
namespace DL
open PySem L2
section
variable {K : PySem.W.Frag} {A A' : Amb} {S S' : List SV} {ta tb te tl : TE} {t u tt tt1 : TT} {s s1 s2 : SV} {E : DE} {tu tw : TS} {g g1 : TG} {wi wi1 : TI} {vs vs1 : List Nat} {k : KA}
theorem to_wipe (to : TOnly g vs) {x : V} {σ : St} {H : Hp} {Q : St → Hp → Prop} (h : g x (L2.wipe σ vs) H Q) : g x (L2.wipe σ vs) H fun σ2 H2 => L2.wipe σ2 vs = L2.wipe σ vs ∧ Q σ2 H2 := by
  have h2 := to x (L2.wipe σ vs) H _ h
  rw [wipe_idem] at h2
  exact h2
/-- the inner for, from what is made so far -/
def Lc2In (K : PySem.W.Frag) (wi1 : TI) (g1 : TG) (tt1 : TT) (te : TE) (S : List SV) (vs1 : List Nat) (A : Amb) (acc : List SV) (J' : KS) : Prop :=
  IW K A wi1 S fun A5 ys => ∃ J1 : Nat → KS, J1 0 A5 acc ∧ (∀ j s1, ys[j]? = some s1 → LcStep K g1 tt1 te S vs1 (J1 j) (J1 (j + 1)) s1) ∧ ∀ A6 acc1, J1 ys.length A6 acc1 → J' A6 acc1
theorem wp_lc2O (to : TOnly g vs) (to1 : TOnly g1 vs1) (h : IW K A wi S fun A1 xs => ∃ J : Nat → KS, J 0 A1 [] ∧ (∀ i s, xs[i]? = some s → ∀ A2 acc, J i A2 acc → GW K g s (wipeS S vs) A2 fun A3 S3 => WpT K A3 tt S3 fun A4 b =>
      (b = true → Lc2In K wi1 g1 tt1 te S3 vs1 A4 acc (J (i + 1))) ∧ (b = false → J (i + 1) A4 acc)) ∧ ∀ A2 acc, J xs.length A2 acc → ∀ p, k (A2.add p (.lst acc)) (.ptr p)) : Wp K A (tLc2 wi g tt wi1 g1 tt1 te vs vs1) S k := fun R F σ H Q a sd q => by
  refine h R F σ H _ a sd fun A1 xs F1 H1 J ⟨Jd, j0, js, je⟩ e1 a1 src p hp => ?_
  refine ⟨fun i m H' => m = xs.length - i ∧ i ≤ xs.length ∧ ∃ A2 acc F2, Jd i A2 acc ∧ Same F1 F2 ∧ AtR K A2 ((p, .lst acc) :: R) F2 H', ⟨_, rfl, Nat.zero_le _, A1, [], F1, j0, Same.refl F1, (a1.new (o := .lst []) (c := .lst []) hp ⟨[], upd_same, .nil⟩).back⟩, ?_⟩
  rintro i m H2 ⟨rfl, hi, A2, acc, F2, hj, e2, a2⟩
  by_cases hlt : i < xs.length
  · obtain ⟨hg, hy⟩ := (src _ F2 H2 i e2 a2).2 xs[i] (List.getElem?_eq_getElem hlt)
    refine .inr ⟨hg, fun H' => ∃ A3 acc3 F3, Jd (i + 1) A3 acc3 ∧ Same F2 F3 ∧ AtR K A3 ((p, .lst acc3) :: R) F3 H', fun H' ⟨A3, acc3, F3, h3, e3, a3⟩ => ⟨xs.length - (i + 1), by omega, rfl, hlt, A3, acc3, F3, h3, e2.trans e3, a3⟩, fun x H' y => ?_⟩
    obtain ⟨F3, e3, a3, r3⟩ := hy x H' y
    have sd3 := ((sd.mono e1).mono (e2.trans e3)).wipe vs
    refine to_wipe to ?_
    refine js i _ (List.getElem?_eq_getElem hlt) A2 acc hj ((p, .lst acc) :: R) F3 (L2.wipe σ vs) H' x _ a3 sd3 r3 ?_
    intro A4 S4 F4 σ4 H4 h4 e4 a4 sd4
    refine h4 _ F4 σ4 H4 _ a4 sd4 fun A5 b F5 H5 h5 e5 a5 => ?_
    cases b with
    | false => exact ⟨A5, acc, F5, h5.2 rfl, (e3.trans e4).trans e5, a5⟩
    | true =>
      have e25 : Same F2 F5 := (e3.trans e4).trans e5
      refine h5.1 rfl _ F5 σ4 H5 _ a5 (sd4.mono e5) fun A6 ys F6 H6 J1 ⟨Jd1, k0, ks, ke⟩ e6 a6 src1 => ?_
      refine ⟨fun j m H' => m = ys.length - j ∧ j ≤ ys.length ∧ ∃ A7 acc7 F7, Jd1 j A7 acc7 ∧ Same F6 F7 ∧ AtR K A7 ((p, .lst acc7) :: R) F7 H', ⟨_, rfl, Nat.zero_le _, A6, acc, F6, k0, Same.refl F6, a6⟩, ?_⟩
      rintro j m H7 ⟨rfl, hj', A7, acc7, F7, hj7, e7, a7⟩
      by_cases hlt1 : j < ys.length
      · obtain ⟨hg1, hy1⟩ := (src1 _ F7 H7 j e7 a7).2 ys[j] (List.getElem?_eq_getElem hlt1)
        refine .inr ⟨hg1, fun H' => ∃ A8 acc8 F8, Jd1 (j + 1) A8 acc8 ∧ Same F7 F8 ∧ AtR K A8 ((p, .lst acc8) :: R) F8 H', fun H' ⟨A8, acc8, F8, h8, e8, a8⟩ => ⟨ys.length - (j + 1), by omega, rfl, hlt1, A8, acc8, F8, h8, e7.trans e8, a8⟩, fun x1 H' y1 => ?_⟩
        obtain ⟨F8, e8, a8, r8⟩ := hy1 x1 H' y1
        have sd8 := ((((sd4.mono e5).mono e6).mono e7).mono e8).wipe vs1
        refine to_wipe to1 ?_
        refine ks j _ (List.getElem?_eq_getElem hlt1) A7 acc7 hj7 ((p, .lst acc7) :: R) F8 (L2.wipe σ4 vs1) H' x1 _ a8 sd8 r8 ?_
        intro A9 S9 F9 σ9 H9 h9 e9 a9 sd9
        refine h9 _ F9 σ9 H9 _ a9 sd9 fun A10 b F10 H10 h10 e10 a10 => ?_
        cases b with
        | false => exact ⟨A10, acc7, F10, h10.2 rfl, (e8.trans e9).trans e10, a10⟩
        | true =>
          refine h10.1 rfl _ F10 σ9 H10 _ a10 (sd9.mono e10) fun A11 s11 v11 F11 H11 ⟨hl, h11⟩ e11 a11 r11 => ?_
          obtain ⟨_, _, us, f3, f4⟩ := At.cell a11 p (.lst acc7) (List.mem_append_right _ List.mem_cons_self)
          refine ⟨us, f3, by rw [f4.length]; exact hl, A11, _, F11, h11, ((e8.trans e9).trans e10).trans e11, ?_⟩
          have a12 := (a11.front).put (o := .lst (us ++ [v11])) (c' := .lst (acc7 ++ [s11])) .head ⟨_, upd_same, papp f4 (.cons r11 .nil)⟩
          exact a12.back
      · have ej : j = ys.length := by omega
        subst ej
        exact .inl ⟨(src1 _ F7 H7 ys.length e7 a7).1 (Nat.le_refl _), A7, acc7, F7, ke A7 acc7 hj7, (e25.trans e6).trans e7, a7⟩
  · have ei : i = xs.length := by omega
    subst ei
    refine .inl ⟨(src _ F2 H2 xs.length e2 a2).1 (Nat.le_refl _), ?_⟩
    exact q _ _ _ F2 H2 (je A2 acc hj p) (e1.trans e2) a2.front rfl
theorem IW.imp {k k' : KS} (h : IW K A wi S k) (i : ∀ A s, k A s → k' A s) : IW K A wi S k' := fun R F σ H Q a sd q => h R F σ H Q a sd fun A1 xs F1 H1 J hk => q A1 xs F1 H1 J (i _ _ hk)
theorem GW.imp {k k' : KS} (h : GW K g s S A k) (i : ∀ A s, k A s → k' A s) : GW K g s S A k' := fun R F σ H v Q a sd r q => h R F σ H v Q a sd r fun A1 S1 F1 σ1 H1 hk => q A1 S1 F1 σ1 H1 (i _ _ hk)
theorem WpA.imp {ta : TA} {k k' : KS} (h : WpA K A ta S k) (i : ∀ A s, k A s → k' A s) : WpA K A ta S k' := fun R F σ H Q a sd q => h R F σ H Q a sd fun A1 xs F1 H1 J hk => q A1 xs F1 H1 J (i _ _ hk)
/-- steps that leave what is owned: a comprehension's for, from acc on -/
theorem lc_pure {acc : List SV} {f : SV → Option PyData} {xs : List SV} (hl : acc.length + xs.length ≤ sizeLine)
    (hs : ∀ (i : Nat) (s : SV), xs[i]? = some s → GW K g s (wipeS S vs) A fun A3 S3 => WpT K A3 tt S3 fun A4 b => (b = true → Wp K A4 te S3 fun A5 s5 => A5 = A ∧ ∃ d, s5 = .dat d ∧ f s = some d) ∧ (b = false → A4 = A ∧ f s = none)) :
    ∃ J : Nat → KS, J 0 A acc ∧ (∀ i s, xs[i]? = some s → LcStep K g tt te S vs (J i) (J (i + 1)) s) ∧ ∀ A2 acc2, J xs.length A2 acc2 → A2 = A ∧ acc2 = acc ++ (xs.filterMap f).map .dat := by
  refine ⟨fun i A2 acc2 => A2 = A ∧ i ≤ xs.length ∧ acc2 = acc ++ ((xs.take i).filterMap f).map .dat, ⟨rfl, Nat.zero_le _, by simp⟩, fun i s hi A2 acc2 ⟨e1, e0, e2⟩ => ?_, fun A2 acc2 ⟨e1, e0, e2⟩ => ⟨e1, by rw [e2, List.take_length]⟩⟩
  subst e1; subst e2
  have hlt := (List.getElem?_eq_some_iff.mp hi).1
  have ht : xs.take (i + 1) = xs.take i ++ [s] := by rw [List.take_add_one, hi]; rfl
  refine (hs i s hi).imp fun A3 S3 h3 => h3.imp fun A4 b ⟨h4, h5⟩ => ⟨fun hb => (h4 hb).imp fun A5 s5 ⟨e5, d, e6, e7⟩ => ?_, fun hb => ?_⟩
  · subst e5; subst e6
    refine ⟨?_, rfl, hlt, by rw [ht, List.filterMap_append, List.map_append, List.append_assoc]; simp [e7]⟩
    have h1 := List.length_filterMap_le f (xs.take i)
    have h2 : (xs.take i).length = i := by rw [List.length_take]; omega
    rw [List.length_append, List.length_map]
    omega
  · obtain ⟨e5, e6⟩ := h5 hb
    subst e5
    exact ⟨rfl, hlt, by rw [ht, List.filterMap_append]; simp [e6]⟩
theorem take_flat {α β : Type} (f : α → List β) (xs : List α) (i : Nat) : ((xs.take i).flatMap f).length ≤ (xs.flatMap f).length := by
  have h : xs.flatMap f = (xs.take i).flatMap f ++ (xs.drop i).flatMap f := by rw [← List.flatMap_append, List.take_append_drop]
  rw [h, List.length_append]
  omega
/-- two for, all steps leaving what is owned: ys: what the inner one walks; F: what it makes of all -/
theorem wp_lc2P (to : TOnly g vs) (to1 : TOnly g1 vs1) (h : IW K A wi S fun A1 (xs : List SV) => ∃ (Y : SV → List SV) (f : SV → SV → Option PyData), (∀ i (s : SV), xs[i]? = some s → ((xs.take i).flatMap fun s => (Y s).filterMap (f s)).length + (Y s).length ≤ sizeLine) ∧
    (∀ (i : Nat) (s : SV), xs[i]? = some s → GW K g s (wipeS S vs) A1 fun A3 S3 => WpT K A3 tt S3 fun A4 b => b = true ∧ IW K A4 wi1 S3 fun A5 ys => A5 = A1 ∧ ys = Y s ∧
      ∀ (j : Nat) (s1 : SV), (Y s)[j]? = some s1 → GW K g1 s1 (wipeS S3 vs1) A1 fun A6 S6 => WpT K A6 tt1 S6 fun A7 b => (b = true → Wp K A7 te S6 fun A8 s8 => A8 = A1 ∧ ∃ d, s8 = .dat d ∧ f s s1 = some d) ∧ (b = false → A7 = A1 ∧ f s s1 = none)) ∧
    ∀ p, k (A1.add p (.lst ((xs.flatMap fun s => (Y s).filterMap (f s)).map .dat))) (.ptr p)) : Wp K A (tLc2 wi g tt wi1 g1 tt1 te vs vs1) S k :=
  wp_lc2O to to1 <| IW.imp h fun A1 xs ⟨Y, f, hl, hs, hk⟩ => by
    refine ⟨fun i A2 acc => A2 = A1 ∧ i ≤ xs.length ∧ acc = ((xs.take i).flatMap fun s => (Y s).filterMap (f s)).map .dat, ⟨rfl, Nat.zero_le _, rfl⟩, fun i s hi A2 acc ⟨e1, e0, e2⟩ => ?_, fun A2 acc ⟨e1, e0, e2⟩ p => ?_⟩
    · subst e1; subst e2
      have hlt := (List.getElem?_eq_some_iff.mp hi).1
      have ht : xs.take (i + 1) = xs.take i ++ [s] := by rw [List.take_add_one, hi]; rfl
      refine (hs i s hi).imp fun A3 S3 h3 => h3.imp fun A4 b ⟨hb, h4⟩ => ⟨fun _ => h4.imp fun A5 ys ⟨e5, e6, h6⟩ => ?_, fun z => by rw [hb] at z; cases z⟩
      subst e5; subst e6
      obtain ⟨J, j0, js, je⟩ := lc_pure (acc := ((xs.take i).flatMap fun s => (Y s).filterMap (f s)).map .dat) (by rw [List.length_map]; exact hl i s hi) h6
      refine ⟨J, j0, js, fun A6 acc6 hj => ?_⟩
      obtain ⟨e7, e8⟩ := je A6 acc6 hj
      refine ⟨e7, hlt, ?_⟩
      rw [e8, ht, List.flatMap_append, List.map_append]
      simp
    · subst e1; subst e2
      rw [List.take_length]
      exact hk p
end
end DL

/-! The data layer: dict displays, chains, is None, named short rules; facts about data. -/
namespace DL
open PySem L2
section
variable {K : PySem.W.Frag} {A A' : Amb} {S S' : List SV} {ta tb tc te tl : TE} {t u tt tt1 : TT} {s s1 s2 : SV} {E : DE} {tu tw : TS} {g g1 : TG} {wi wi1 : TI} {vs vs1 : List Nat} {k : KA} {r r' : R2}
/-! ### displays of dicts -/
def WpP (K : PySem.W.Frag) : List (TE × TE) → Amb → List SV → (Amb → List (SV × SV) → Prop) → Prop
  | [], A, _, k => k A []
  | (tk, tv) :: r, A, S, k => Wp K A tk S fun A1 s1 => Wp K A1 tv S fun A2 s2 => WpP K r A2 S fun A3 ps => k A3 ((s1, s2) :: ps)
theorem wpp_run : ∀ {trs : List (TE × TE)} {A : Amb} {S : List SV} {k : Amb → List (SV × SV) → Prop} {R : List (Addr × Cell)} {F : Hp} {σ : St} {H : Hp} {Q : List (V × V) → Hp → Prop}, WpP K trs A S k → AtR K A R F H → SD K F σ S →
    (∀ A1 ps qs F1 H1, k A1 ps → Same F F1 → AtR K A1 R F1 H1 → Paired (fun (x : V × V) (y : SV × SV) => SR K F1 x.1 y.1 ∧ SR K F1 x.2 y.2) qs ps → Q qs H1) → tPairs trs σ H Q
  | [], A, S, k, R, F, σ, H, Q, h, a, sd, q => q A [] [] F H h (Same.refl F) a .nil
  | (tk, tv) :: r, A, S, k, R, F, σ, H, Q, h, a, sd, q => by
    refine h R F σ H _ a sd fun A1 s1 v F1 H1 h1 e1 a1 r1 => h1 R F1 σ H1 _ a1 (sd.mono e1) fun A2 s2 w F2 H2 h2 e2 a2 r2 => ?_
    exact wpp_run h2 a2 ((sd.mono e1).mono e2) fun A3 ps qs F3 H3 h3 e3 a3 r3 => q A3 _ _ F3 H3 h3 ((e1.trans e2).trans e3) a3 (.cons ⟨r1.mono (e2.trans e3), r2.mono e3⟩ r3)
def keyOf : SV → Option Key
  | .dat (.int i) => some (.inl i)
  | .dat (.str x) => some (.inr x)
  | _ => none
def keysOf : List (SV × SV) → Option (List (Key × SV))
  | [] => some []
  | (a, b) :: r => match keyOf a, keysOf r with
    | some x, some l => some ((x, b) :: l)
    | _, _ => none
theorem keyOf_v {F : Hp} {v : V} {s : SV} {x : Key} (h : keyOf s = some x) (r : SR K F v s) : v = kV x := by
  cases s with
  | dat d =>
    cases d with
    | int i => cases h; exact sr_int r
    | str z => cases h; exact sr_str r
    | none => cases h
    | bool b => cases h
    | list l => cases h
    | tuple l => cases h
    | dict l => cases h
  | no => cases h
  | ptr p => cases h
  | scr ns => cases h
  | bar ds => cases h
theorem keysOf_v {F : Hp} : ∀ {ps : List (SV × SV)} {qs : List (V × V)} {kvs : List (Key × SV)}, keysOf ps = some kvs → Paired (fun (x : V × V) (y : SV × SV) => SR K F x.1 y.1 ∧ SR K F x.2 y.2) qs ps → ∃ vs : List (Key × V), qs = vs.map (fun kv => (kV kv.1, kv.2)) ∧ KVR K F vs kvs
  | [], _, kvs, h, .nil => by cases h; exact ⟨[], rfl, .nil⟩
  | (a, b) :: r, _, kvs, h, .cons (a := q) r1 t => by
    unfold keysOf at h
    cases e1 : keyOf a with
    | none => rw [e1] at h; cases h
    | some x =>
      cases e2 : keysOf r with
      | none => rw [e1, e2] at h; cases h
      | some l =>
        rw [e1, e2] at h
        cases h
        obtain ⟨vs, h1, h2⟩ := keysOf_v e2 t
        refine ⟨(x, q.2) :: vs, ?_, .cons ⟨rfl, r1.2⟩ h2⟩
        rw [h1, List.map_cons]
        have := keyOf_v e1 r1.1
        show (q.1, q.2) :: _ = (kV x, q.2) :: _
        rw [this]
def mergeS (kvs more : List (Key × SV)) : List (Key × SV) := more.foldl (fun acc kv => putS acc kv.1 kv.2) kvs
theorem kvr_merge {F : Hp} : ∀ {more : List (Key × V)} {moreS : List (Key × SV)} {vs : List (Key × V)} {kvs : List (Key × SV)}, KVR K F more moreS → KVR K F vs kvs → KVR K F (mergeK vs more) (mergeS kvs moreS)
  | _, _, _, _, .nil, h => h
  | a :: l, b :: m, vs, kvs, h0, h => by
    cases h0 with
    | cons r t =>
    have h1 : KVR K F (putK vs a.1 a.2) (putS kvs b.1 b.2) := by
      rw [← r.1]
      exact kvr_put h r.2
    show KVR K F (mergeK (putK vs a.1 a.2) l) (mergeS (putS kvs b.1 b.2) m)
    exact kvr_merge t h1
/-- {k: v, ..}: a new dict, one's own -/
theorem wp_disp {trs : List (TE × TE)} (h : WpP K trs A S fun A1 ps => ∃ kvs, keysOf ps = some kvs ∧ kvs.length ≤ 15 ∧ ∀ p, k (A1.add p (.dk (mergeS [] kvs))) (.ptr p)) : Wp K A (tDisp trs) S k := fun R F σ H Q a sd q p hp => by
  have a1 := (AtR.new (o := .dK []) (c := .dk []) a hp ⟨[], upd_same, .nil⟩).back
  refine wpp_run h a1 sd fun A1 ps qs F1 H1 ⟨kvs, h1, h2, h3⟩ e1 a2 r => ?_
  obtain ⟨_, _, us, f3, f4⟩ := At.cell a2 p (.dk []) (List.mem_append_right _ List.mem_cons_self)
  have f4' : KVR K F1 us [] := f4
  cases f4'
  obtain ⟨vs, g1, g2⟩ := keysOf_v h1 r
  refine ⟨f3, vs, g1, by rw [g2.length]; exact h2, ?_⟩
  have a3 := (a2.front).put (o := .dK (mergeK [] vs)) (c' := .dk (mergeS [] kvs)) .head ⟨_, upd_same, kvr_merge g2 .nil⟩
  exact q _ _ _ _ _ (h3 p) e1 a3 rfl

/-! ### chains, is None -/
theorem wp_chain (h : Wp K A ta S fun A1 s1 => Wp K A1 tb S fun A2 s2 => RW K r s1 s2 A2 fun A3 s3 => ∃ b, s3 = .dat (.bool b) ∧ (b = true → Wp K A3 tc S fun A4 s4 => RW K r' s2 s4 A4 k) ∧ (b = false → k A3 (.dat (.bool false)))) : Wp K A (tChain r r' ta tb tc) S k := fun R F σ H Q a sd q =>
  h R F σ H _ a sd fun A1 s1 v F1 H1 h1 e1 a1 r1 => h1 R F1 σ H1 _ a1 (sd.mono e1) fun A2 s2 w F2 H2 h2 e2 a2 r2 => h2 R F2 H2 v w _ a2 (r1.mono e2) r2 fun A3 s3 u F3 H3 ⟨b, hb, h3, h4⟩ e3 a3 r3 => by
    subst hb
    refine ⟨b, sr_bl r3, ?_⟩
    cases b with
    | true =>
      show tc σ H3 _
      exact h3 rfl R F3 σ H3 _ a3 (((sd.mono e1).mono e2).mono e3) fun A4 s4 x F4 H4 h5 e4 a4 r4 => h5 R F4 H4 w x Q a4 (r2.mono (e3.trans e4)) r4 (q.mono (((e1.trans e2).trans e3).trans e4))
    | false => exact q _ _ _ _ _ (h4 rfl) ((e1.trans e2).trans e3) a3 (.bl false)
def rIsNo : R2 := fun x y H Q => y = .non ∧ Q (.bl (decide (x = .non))) H
def rNotNo : R2 := fun x y H Q => y = .non ∧ Q (.bl (!decide (x = .non))) H
theorem op_isN1 {X : Cx} : OpR X (compareOp .Is) rIsNo := op_isN
theorem op_notN1 {X : Cx} : OpR X (compareOp .IsNot) rNotNo := op_notN
def isNone : PyData → Bool
  | .none => true
  | _ => false
theorem dt_isN {F : Hp} {v : V} {d : PyData} (h : Dt K F v d) : decide (v = .non) = isNone d := by
  cases h <;> rfl
theorem rw_isN {d : PyData} (h : k A (.dat (.bool (isNone d)))) : RW K rIsNo (.dat d) (.dat .none) A k := fun R F H v w Q a r1 r2 q =>
  ⟨sr_non r2, by rw [dt_isN r1]; exact q A _ _ F H h (Same.refl F) a (.bl _)⟩
theorem rw_notN {d : PyData} (h : k A (.dat (.bool (!isNone d)))) : RW K rNotNo (.dat d) (.dat .none) A k := fun R F H v w Q a r1 r2 q =>
  ⟨sr_non r2, by rw [dt_isN r1]; exact q A _ _ F H h (Same.refl F) a (.bl _)⟩
end

theorem op_eqA {X : Cx} (hu : X.A.units + 65 < cLine) : OpR X (compareOp .Eq) (rEqD X.K) := op_eqD (by omega)
theorem op_neA {X : Cx} (hu : X.A.units + 65 < cLine) : OpR X (compareOp .NotEq) (rNeD X.K) := op_neD (by omega)
theorem sz64 {n : Nat} (h : Nat.ble n 64 = true) : n ≤ sizeLine := Nat.le_trans (Nat.le_of_ble_eq_true h) (by decide)
theorem cxK {CX : CXT} {P : Program} {w : World} {K : PySem.W.Frag} {mg : Str → Option Value} {base : Heap} {N : List Str} {qual : Str} {scope : Scope} {f : Addr} {cd : Value} {A : Around} {outer : List Env} {s : Shared} {H : Hp} {E : XK} : (cxOf CX P w K mg base N qual scope f cd A outer s H E).nox.K = K := rfl
/-! ### facts about data -/
mutual
/-- no truths, no dicts within -/
def plainD : PyData → Bool
  | .none | .int _ => true
  | .str z => PyData.strOk z
  | .bool _ | .dict _ => false
  | .list xs | .tuple xs => plainA xs
def plainA : List PyData → Bool
  | [] => true
  | x :: xs => plainD x && plainA xs
end
mutual
theorem eqv_plain : ∀ (x y : PyData), plainD x = true → plainD y = true → (PyData.eqv x y = true ↔ x = y)
  | .none, y, _, hy => by cases y <;> simp [PyData.eqv]
  | .int i, y, _, hy => by cases y <;> simp_all [PyData.eqv, plainD]
  | .str z, y, _, hy => by cases y <;> simp_all [PyData.eqv, plainD]
  | .bool b, y, hx, _ => by simp [plainD] at hx
  | .dict b, y, hx, _ => by simp [plainD] at hx
  | .list xs, y, hx, hy => by
    cases y with
    | list ys =>
      have h := eqvAll_plain xs ys (by simpa [plainD] using hx) (by simpa [plainD] using hy)
      simp [PyData.eqv, h]
    | bool b => simp [plainD] at hy
    | dict b => simp [plainD] at hy
    | _ => simp [PyData.eqv]
  | .tuple xs, y, hx, hy => by
    cases y with
    | tuple ys =>
      have h := eqvAll_plain xs ys (by simpa [plainD] using hx) (by simpa [plainD] using hy)
      simp [PyData.eqv, h]
    | bool b => simp [plainD] at hy
    | dict b => simp [plainD] at hy
    | _ => simp [PyData.eqv]
theorem eqvAll_plain : ∀ (xs ys : List PyData), plainA xs = true → plainA ys = true → (PyData.eqvAll xs ys = true ↔ xs = ys)
  | [], [], _, _ => by simp [PyData.eqvAll]
  | [], _ :: _, _, _ => by simp [PyData.eqvAll]
  | _ :: _, [], _, _ => by simp [PyData.eqvAll]
  | x :: xs, y :: ys, hx, hy => by
    simp only [plainA, Bool.and_eq_true] at hx hy
    have h1 := eqv_plain x y hx.1 hy.1
    have h2 := eqvAll_plain xs ys hx.2 hy.2
    simp [PyData.eqvAll, h1, h2]
end
theorem plainA_map {α : Type} {f : α → PyData} (h : ∀ a, plainD (f a) = true) : ∀ xs : List α, plainA (xs.map f) = true
  | [] => by simp [plainA]
  | x :: xs => by simp [plainA, h x, plainA_map h xs]
theorem plainA_mem : ∀ {xs : List PyData}, plainA xs = true ↔ ∀ x ∈ xs, plainD x = true
  | [] => by simp [plainA]
  | x :: xs => by simp [plainA, plainA_mem (xs := xs)]
/-- eqv of an encoding is equality -/
theorem eqv_enc {α : Type} [DecidableEq α] {f : α → PyData} (hp : ∀ a, plainD (f a) = true) (hi : ∀ a b, f a = f b → a = b) (a b : α) : PyData.eqv (f a) (f b) = decide (a = b) := by
  by_cases e : a = b
  · subst e
    rw [decide_eq_true rfl]
    exact (eqv_plain _ _ (hp a) (hp a)).mpr rfl
  · rw [decide_eq_false e]
    cases h : PyData.eqv (f a) (f b) with
    | false => rfl
    | true => exact absurd (hi a b ((eqv_plain _ _ (hp a) (hp b)).mp h)) e
theorem any_enc {α : Type} [DecidableEq α] {f : α → PyData} (hp : ∀ a, plainD (f a) = true) (hi : ∀ a b, f a = f b → a = b) (xs : List α) (b : α) : (xs.map f).any (fun z => PyData.eqv z (f b)) = decide (b ∈ xs) := by
  induction xs with
  | nil => simp
  | cons x xs ih =>
    rw [List.map_cons, List.any_cons, ih, eqv_enc hp hi]
    by_cases e : x = b
    · simp [e]
    · have e' : ¬ b = x := fun q => e q.symm
      simp [e, e']
theorem lay_plain : ∀ (x : PyData), plainD x = true → x.canLay0 = true := by
  intro x
  exact PyData.rec (motive_1 := fun x => plainD x = true → x.canLay0 = true) (motive_2 := fun xs => plainA xs = true → PyData.canLayAll0 xs = true) (motive_3 := fun _ => True) (motive_4 := fun _ => True)
    (fun _ => by simp [PyData.canLay0]) (fun b h => by simp [plainD] at h) (fun i _ => by simp [PyData.canLay0]) (fun z h => by simp only [plainD] at h; simpa [PyData.canLay0] using h) (fun xs ih h => by simp only [plainD] at h; simpa [PyData.canLay0] using ih h)
    (fun xs ih h => by simp only [plainD] at h; simpa [PyData.canLay0] using ih h) (fun _ _ h => by simp [plainD] at h) (fun _ => by simp [PyData.canLayAll0]) (fun y ys i1 i2 h => by simp only [plainA, Bool.and_eq_true] at h; simp [PyData.canLayAll0, i1 h.1, i2 h.2])
    trivial (fun _ _ _ _ => trivial) (fun _ _ _ _ => trivial) x
theorem shaped_plain {x : PyData} (h : plainD x = true) (hd : x.depth ≤ 64) : SeqAt.shaped x = true := by
  unfold SeqAt.shaped
  rw [lay_plain x h, decide_eq_true hd]
  rfl
theorem depthAll_le {n : Nat} : ∀ {xs : List PyData}, (∀ x ∈ xs, x.depth ≤ n) → PyData.depthAll xs ≤ n
  | [], _ => by simp [PyData.depthAll]
  | x :: xs, h => by
    have h1 := h x List.mem_cons_self
    have h2 := depthAll_le (xs := xs) fun y hy => h y (List.mem_cons_of_mem _ hy)
    simp only [PyData.depthAll]
    omega
/-! ### sorted lists of data -/
theorem dataLe_total : PySem.W.TotalLe (PySem.W.dataLe false (id : PyData → PyData)) := PySem.W.sortLe_total _ false _
theorem dsort_perm (ds : List PyData) : (dsort ds).Perm ds := List.mergeSort_perm _ _
theorem dsort_pair (ds : List PyData) : (dsort ds).Pairwise fun a b => PySem.W.dataLe false id a b = true := PySem.W.sort_pairwise dataLe_total ds
/-- two alike ones, neither less than the other, are one -/
theorem not_lt {x y : PyData} (ha : PySem.W.alike x y = true) (h1 : PySem.W.dataLt x y = false) (h2 : PySem.W.dataLt y x = false) : PyData.eqv x y = true := by
  have e : PySem.W.keyToks x = PySem.W.keyToks y := (PyProof.Rows.listOrd PyProof.Rows.itemOrd).total _ _ h1 h2
  cases h : PyData.eqv x y with
  | true => rfl
  | false =>
    have h3 := (PySem.W.toks_eqv x y ha).2 h [] [.inl 0]
    have h4 : PyProof.Rows.lexLt PyProof.Rows.itemOrd (PySem.W.keyToks x) (PySem.W.keyToks y) = false := h1
    rw [← e, PySem.W.lex_pre] at h3
    rw [← e] at h4
    rw [h4] at h3
    have h5 : PyProof.Rows.lexLt PyProof.Rows.itemOrd [] [.inl 0] = true := rfl
    exact h3.symm.trans h5
theorem perm_sorted {α : Type} {le : α → α → Prop} : ∀ {l m : List α}, (∀ a ∈ l, ∀ b ∈ l, le a b → le b a → a = b) → l.Perm m → l.Pairwise le → m.Pairwise le → l = m
  | [], m, _, p, _, _ => p.nil_eq
  | a :: l, [], _, p, _, _ => absurd p.symm.nil_eq (by simp)
  | a :: l, b :: m, anti, p, h1, h2 => by
    have e : a = b := by
      have ha : a ∈ b :: m := p.mem_iff.mp List.mem_cons_self
      have hb : b ∈ a :: l := p.mem_iff.mpr List.mem_cons_self
      rcases List.mem_cons.mp ha with ha | ha
      · exact ha
      rcases List.mem_cons.mp hb with hb | hb
      · exact hb.symm
      exact anti a List.mem_cons_self b (List.mem_cons_of_mem _ hb) ((List.pairwise_cons.mp h1).1 b hb) ((List.pairwise_cons.mp h2).1 a ha)
    subst e
    rw [perm_sorted (fun x hx y hy => anti x (List.mem_cons_of_mem _ hx) y (List.mem_cons_of_mem _ hy)) ((List.perm_cons a).mp p) (List.pairwise_cons.mp h1).2 (List.pairwise_cons.mp h2).2]
/-- two lists of the same things are sorted to one -/
theorem dsort_eq {l m : List PyData} (p : l.Perm m) (hal : PySem.W.AllAlike l) (hp : plainA l = true) : dsort l = dsort m := by
  refine perm_sorted (le := fun a b => PySem.W.dataLe false id a b = true) (fun a ha b hb h1 h2 => ?_) (((dsort_perm l).trans p).trans (dsort_perm m).symm) (dsort_pair l) (dsort_pair m)
  have ha' := (dsort_perm l).mem_iff.mp ha
  have hb' := (dsort_perm l).mem_iff.mp hb
  have k1 : (!PySem.W.dataLt b a) = true := h1
  have k2 : (!PySem.W.dataLt a b) = true := h2
  rw [Bool.not_eq_true'] at k1 k2
  exact (eqv_plain a b (plainA_mem.mp hp a ha') (plainA_mem.mp hp b hb')).mp (not_lt (hal a ha' b hb') k2 k1)
end DL

/-! The data layer: calls with keywords, all parameters given. -/
namespace DL
open PySem L2
/-- the parameters' order: from the values by place (inl), by name (inr) -/
def kperm {α : Type} (z : α) (perm : List (Sum Nat Nat)) (us ws : List α) : List α := perm.map fun
  | .inl j => us.getD j z
  | .inr j => ws.getD j z
structure KB (K : PySem.W.Frag) (fd : FuncData) (ps : List Str) (n : Nat) (ks : List Str) (perm : List (Sum Nat Nat)) : Prop where
  to : ∀ (s : Shared) (us ws : List Value), K.In s.heap → us.length = n → ws.length = ks.length → BindsTo s fd ⟨us, ks.zip ws⟩ (ps.zip (kperm .none perm us ws))
  len : perm.length = ps.length
theorem kb_of {K : PySem.W.Frag} {x qual : Str} {st : Stmt} {f : Addr} {fd : FuncData} {ps ks : List Str} {n : Nat} {perm : List (Sum Nat Nat)} (F : Fun K x qual st f fd) (hl : perm.length = ps.length)
    (h : ∀ (kV doc pm : Value) (an : Option Addr) (cdv ct : Value) (us ws : List Value), us.length = n → ws.length = ks.length → bindArgs (PySem.W.fnOf x qual (defArgs st) (defBody st) (defScope st) .none kV doc pm an cdv ct) ⟨us, ks.zip ws⟩ = pure (ps.zip (kperm .none perm us ws))) : KB K fd ps n ks perm := by
  obtain ⟨oc, od, kV, doc, pm, an, cdv, ct, osl, rfl, lk, hcd⟩ := F.ex
  exact ⟨fun s us ws _ h1 h2 => .of_eq (h kV doc pm an cdv ct us ws h1 h2), hl⟩
theorem vals_getD {vs : List V} {us : List Value} (r : Vals vs us) (j : Nat) : RelV (vs.getD j .non) (us.getD j .none) := by
  induction r generalizing j with
  | nil => simp; rfl
  | cons h t ih =>
    cases j with
    | zero => simpa using h
    | succ j => simpa using ih j
theorem vals_perm {vs ws : List V} {us zs : List Value} (r : Vals vs us) (r' : Vals ws zs) : ∀ perm : List (Sum Nat Nat), Vals (kperm .non perm vs ws) (kperm .none perm us zs)
  | [] => .nil
  | .inl j :: p => .cons (vals_getD r j) (vals_perm r r' p)
  | .inr j :: p => .cons (vals_getD r' j) (vals_perm r r' p)
theorem srs_getD {K : PySem.W.Frag} {F : Hp} {vs : List V} {ss : List SV} (r : SRs K F vs ss) (j : Nat) : SR K F (vs.getD j .non) (ss.getD j (.dat .none)) := by
  induction r generalizing j with
  | nil => simp; exact .non
  | cons h t ih =>
    cases j with
    | zero => simpa using h
    | succ j => simpa using ih j
theorem srs_perm {K : PySem.W.Frag} {F : Hp} {vs ws : List V} {ss ts : List SV} (r : SRs K F vs ss) (r' : SRs K F ws ts) : ∀ perm : List (Sum Nat Nat), SRs K F (kperm .non perm vs ws) (kperm (.dat .none) perm ss ts)
  | [] => .nil
  | .inl j :: p => .cons (srs_getD r j) (srs_perm r r' p)
  | .inr j :: p => .cons (srs_getD r' j) (srs_perm r r' p)
def tCallP (n m : Nat) (sp : Sp) (perm : List (Sum Nat Nat)) (E : XK) (t tk : TA) : TE := fun σ H Q => t σ H fun vs H1 => tk σ H1 fun zs H2 => vs.length = n ∧ zs.length = m ∧ sp (kperm .non perm vs zs) H2 Q E
section
variable {X : Cx} {CX : CXT} {k n : Nat} {f : Addr} {fd : FuncData} {ps ks : List Str} {sp : Sp} {E : XK} {x : Str} {p pos : Pos} {e : Expr} {es : List Expr} {kws : List Keyword} {t tk : TA} {perm : List (Sum Nat Nat)}
theorem run_kp {pins : List (Addr × Obj)} {σ : St} {H : Hp} {s : Shared} {Q : VK} {us ws : List Value} {vs zs : List V} (F : FnOk X.prog X.w X.K X.mg X.base CX k f fd ps sp) (hr : Room k X.A) (hb : KB X.K fd ps n ks perm) (hx : Passes CX X E)
    (I : Inv X pins σ H s) (r : Vals vs us) (rz : Vals zs ws) (h1 : vs.length = n) (h2 : zs.length = ks.length) (h : sp (kperm .non perm vs zs) H Q E) : wpAny (model X.prog X.w) X.A (call (.ref f) us (ks.zip ws)) (EP X pins σ Q) X.xe s := by
  have b := hb.to s us ws I.kIn (r.length.symm.trans h1) (rz.length.symm.trans h2)
  refine wpAny_call (codeAny_mono (F.run X.A X.stack s H ⟨us, ks.zip ws⟩ _ _ Q E hr I.env0 b (vals_perm r rz perm) h) fun r s' hq => ?_)
  cases r with
  | error e => exact hx pins σ H s e s' I hq
  | ok fl =>
    cases fl with
    | ret u => exact I.after hq
    | next => exact False.elim hq
    | brk => exact False.elim hq
    | cont => exact False.elim hq
theorem pe_callP (F : FnOk X.prog X.w X.K X.mg X.base CX k f fd ps sp) (hr : Room k X.A) (hg : Gl X x) (hm : X.mg x = some (.ref f)) (hk : PySem.W.keepIn X.K (.ref f) = true) (hb : KB X.K fd ps n ks perm) (hx : Passes CX X E)
    (ha : PA X (e :: es) t) (hkw : PK X kws tk) (hall : (backToKw pos (keywordEach kws X.env)).all (·.1.isSome) = true := by rfl) (hks : (backToKw pos (keywordEach kws X.env)).filterMap (·.1) = ks := by rfl)
    (hdb : (x == ("__debug__" : Str)) = false := by decide) (he : starEach (e :: es) X.env = (false, eval e X.env) :: starEach es X.env := by rfl)
    (hpl : ((backTo pos (starEach (e :: es) X.env)).any (·.1) || (backToKw pos (keywordEach kws X.env)).any (·.1.isNone)) = false := by rfl) :
    PE X (.Call (.Name x p) (e :: es) kws pos) (tCallP n ks.length sp perm E t tk) := by
  refine ⟨fun pins s σ H Q I h => wpAny_Call_Name_kw (ld_glob I hg hm ?_ hdb)⟩
  refine PySem.W.callWith_KW (h₀ := X.base) I.ok.mod.kin hk hall (thn (ha.run pos pins s σ H _ I h) fun us s1 ⟨vs, H1, I1, r, q⟩ => thn (hkw.run pos pins s1 σ H1 _ I1 q) fun ws s2 ⟨zs, H2, I2, rz, q2⟩ => ⟨I2.kIn, ?_⟩) hpl he
  rw [hks]
  exact run_kp F hr hb hx I2 r rz q2.1 q2.2.1 q2.2.2
theorem pe_callP0 (F : FnOk X.prog X.w X.K X.mg X.base CX k f fd ps sp) (hr : Room k X.A) (hg : Gl X x) (hm : X.mg x = some (.ref f)) (hk : PySem.W.keepIn X.K (.ref f) = true) (hb : KB X.K fd ps 0 ks perm) (hx : Passes CX X E)
    (hkw : PK X kws tk) (hall : (backToKw pos (keywordEach kws X.env)).all (·.1.isSome) = true := by rfl) (hks : (backToKw pos (keywordEach kws X.env)).filterMap (·.1) = ks := by rfl)
    (hdb : (x == ("__debug__" : Str)) = false := by decide)
    (hpl : ((backTo pos (starEach [] X.env)).any (·.1) || (backToKw pos (keywordEach kws X.env)).any (·.1.isNone)) = false := by rfl) :
    PE X (.Call (.Name x p) [] kws pos) (tCallP 0 ks.length sp perm E tNil tk) := by
  refine ⟨fun pins s σ H Q I h => wpAny_Call_Name_kw (ld_glob I hg hm ?_ hdb)⟩
  refine PySem.W.callWith_KW0 (h₀ := X.base) I.ok.mod.kin hk hall (thn (hkw.run pos pins s σ H _ I h) fun ws s2 ⟨zs, H2, I2, rz, q2⟩ => ⟨I2.kIn, ?_⟩) hpl
  rw [hks]
  exact run_kp (us := []) (vs := []) F hr hb hx I2 .nil rz q2.1 q2.2.1 q2.2.2
end
theorem wp_callP {K : PySem.W.Frag} {A : Amb} {S : List SV} {k : KA} {n m : Nat} {W : List SV → Amb → KA → Prop} {EX : XK} {ta tk : TA} {perm : List (Sum Nat Nat)}
    (h : WpA K A ta S fun A1 ss => WpA K A1 tk S fun A2 ts => ss.length = n ∧ ts.length = m ∧ W (kperm (.dat .none) perm ss ts) A2 k) : Wp K A (tCallP n m (spW K W) perm EX ta tk) S k := fun R F σ H Q a sd q =>
  h R F σ H _ a sd fun A1 ss vs F1 H1 h1 e1 a1 r1 => h1 R F1 σ H1 _ a1 (sd.mono e1) fun A2 ts ws F2 H2 ⟨h2, h3, h4⟩ e2 a2 r2 => ⟨by rw [r1.length]; exact h2, by rw [r2.length]; exact h3, A2, R, F2, _, k, a2, srs_perm (SRs.mono e2 r1) r2 perm, h4, q.mono (e1.trans e2)⟩
end DL

/-! The data layer: comprehensions and loops over lists of encoded things. -/
namespace DL
open PySem L2
section
variable {K : PySem.W.Frag} {A A' : Amb} {S S' : List SV} {ta tb tc te tl : TE} {t u tt tt1 : TT} {s s1 s2 : SV} {E : DE} {tu tw : TS} {g g1 : TG} {wi wi1 : TI} {vs vs1 : List Nat} {k : KA} {α β : Type}
theorem get_enc {enc : α → PyData} {xs : List α} {i : Nat} {s : SV} (h : ((xs.map enc).map SV.dat)[i]? = some s) : ∃ x, xs[i]? = some x ∧ s = .dat (enc x) := by
  rw [List.getElem?_map, List.getElem?_map] at h
  cases e : xs[i]? with
  | none => rw [e] at h; cases h
  | some x => rw [e] at h; exact ⟨x, rfl, (Option.some.inj h).symm⟩
theorem filter_take (p : α → Bool) (f : α → β) {xs : List α} {i : Nat} {x : α} (h : xs[i]? = some x) : ((xs.take (i + 1)).filter p).map f = ((xs.take i).filter p).map f ++ if p x = true then [f x] else [] := by
  rw [List.take_add_one, h, List.filter_append, List.map_append]
  congr 1
  by_cases hp : p x = true
  · simp [hp]
  · simp [hp]
/-- a turn's step, told by the item -/
def LcItem (K : PySem.W.Frag) (g : TG) (tt : TT) (te : TE) (S : List SV) (vs : List Nat) (A : Amb) (s : SV) (b : Bool) (d : PyData) : Prop :=
  GW K g s (wipeS S vs) A fun A3 S3 => WpT K A3 tt S3 fun A4 b' => b' = b ∧ (b = true → Wp K A4 te S3 fun A5 s5 => A5 = A ∧ s5 = .dat d) ∧ (b = false → A4 = A)
theorem wp_lcMO {enc : α → PyData} {xs : List α} (to : TOnly g vs) (p : α → Bool) (f : α → PyData) (hl : xs.length ≤ sizeLine)
    (h : IW K A wi S fun A1 ss => ss = (xs.map enc).map .dat ∧ (∀ x ∈ xs, LcItem K g tt te S vs A1 (.dat (enc x)) (p x) (f x)) ∧ ∀ q, k (A1.add q (.lst (((xs.filter p).map f).map .dat))) (.ptr q)) : Wp K A (tLc wi g tt te vs) S k :=
  wp_lcO to <| IW.imp h fun A1 ss ⟨e, hs, hk⟩ => by
    subst e
    refine ⟨fun i A2 acc => A2 = A1 ∧ i ≤ xs.length ∧ acc = (((xs.take i).filter p).map f).map .dat, ⟨rfl, Nat.zero_le _, by simp⟩, fun i s hi A2 acc ⟨e1, e0, e2⟩ => ?_, fun A2 acc ⟨e1, e0, e2⟩ q => ?_⟩
    · subst e1; subst e2
      obtain ⟨x, hx, rfl⟩ := get_enc hi
      have hlt := (List.getElem?_eq_some_iff.mp hx).1
      refine (hs x (List.mem_of_getElem? hx)).imp fun A3 S3 h3 => h3.imp fun A4 b ⟨e5, h5, h6⟩ => ⟨fun hb => ?_, fun hb => ?_⟩
      · rw [e5] at hb
        refine (h5 hb).imp fun A5 s5 ⟨e6, e7⟩ => ?_
        subst e6; subst e7
        refine ⟨?_, rfl, hlt, by rw [filter_take p f hx, if_pos hb, List.map_append]; rfl⟩
        have h1 := List.length_filter_le p (xs.take i)
        have h2 : (xs.take i).length = i := by rw [List.length_take]; omega
        rw [List.length_map, List.length_map]
        omega
      · rw [e5] at hb
        have := h6 hb
        subst this
        exact ⟨rfl, hlt, by rw [filter_take p f hx, if_neg (by rw [hb]; exact Bool.false_ne_true), List.append_nil]⟩
    · subst e1; subst e2
      rw [List.length_map, List.length_map, List.take_length]
      exact hk q
theorem wp_lcM {enc : α → PyData} {xs : List α} (to : TOnly g vs) (p : α → Bool) (f : α → PyData) (hl : xs.length ≤ sizeLine)
    (h : IW K A wi S fun A1 ss => ss = (xs.map enc).map .dat ∧ (∀ x ∈ xs, LcItem K g tt te S vs A1 (.dat (enc x)) (p x) (f x)) ∧ k A1 (.dat (.list ((xs.filter p).map f)))) : Wp K A (tLc wi g tt te vs) S k :=
  wp_frz <| wp_lcMO to p f hl <| IW.imp h fun A1 ss ⟨e, hs, hk⟩ => ⟨e, hs, fun q => ⟨q, _, A1.cells, rfl, .head, hk⟩⟩
/-- no test -/
theorem lc_item {d : PyData} (h : GW K g s (wipeS S vs) A fun A3 S3 => Wp K A3 te S3 fun A5 s5 => A5 = A ∧ s5 = .dat d) : LcItem K g tYes te S vs A s true d :=
  h.imp fun A3 S3 h3 => wpt_yes ⟨rfl, fun _ => h3, fun z => by cases z⟩
theorem filter_true (xs : List α) : xs.filter (fun _ => true) = xs := List.filter_eq_self.mpr fun _ _ => rfl
theorem wp_lcA {enc : α → PyData} {xs : List α} (to : TOnly g vs) (f : α → PyData) (hl : xs.length ≤ sizeLine)
    (h : IW K A wi S fun A1 ss => ss = (xs.map enc).map .dat ∧ (∀ x ∈ xs, GW K g (.dat (enc x)) (wipeS S vs) A1 fun A3 S3 => Wp K A3 te S3 fun A5 s5 => A5 = A1 ∧ s5 = .dat (f x)) ∧ k A1 (.dat (.list (xs.map f)))) : Wp K A (tLc wi g tYes te vs) S k :=
  wp_lcM (enc := enc) (xs := xs) to (fun _ => true) f hl <| IW.imp h fun A1 ss ⟨e, hs, hk⟩ => ⟨e, fun x hx => lc_item (hs x hx), by rw [filter_true]; exact hk⟩
theorem irange_enc (lo : Int) (n : Nat) : irange lo n = ((List.range n).map fun (i : Nat) => PyData.int (lo + i)).map .dat := by
  unfold irange
  rw [List.map_map]
  rfl
/-- two for -/
theorem wp_lc2M {enc : α → PyData} {enc1 : β → PyData} {xs : List α} {ys : α → List β} (to : TOnly g vs) (to1 : TOnly g1 vs1) (p : α → β → Bool) (f : α → β → PyData) {n : Nat} (hn : ∀ x ∈ xs, (ys x).length ≤ n) (hl : xs.length * n ≤ sizeLine)
    (h : IW K A wi S fun A1 ss => ss = (xs.map enc).map .dat ∧ (∀ x ∈ xs, GW K g (.dat (enc x)) (wipeS S vs) A1 fun A3 S3 => WpT K A3 tt S3 fun A4 b => b = true ∧ IW K A4 wi1 S3 fun A5 ts => A5 = A1 ∧ ts = ((ys x).map enc1).map .dat ∧
      ∀ y ∈ ys x, LcItem K g1 tt1 te S3 vs1 A1 (.dat (enc1 y)) (p x y) (f x y)) ∧ ∀ q, k (A1.add q (.lst ((xs.flatMap fun x => ((ys x).filter (p x)).map (f x)).map .dat))) (.ptr q)) : Wp K A (tLc2 wi g tt wi1 g1 tt1 te vs vs1) S k :=
  wp_lc2O to to1 <| IW.imp h fun A1 ss ⟨e, hs, hk⟩ => by
    subst e
    have bound : ∀ i, i ≤ xs.length → ((xs.take i).flatMap fun x => ((ys x).filter (p x)).map (f x)).length ≤ i * n := by
      intro i hi
      have aux : ∀ l : List α, (∀ x ∈ l, x ∈ xs) → (l.flatMap fun x => ((ys x).filter (p x)).map (f x)).length ≤ l.length * n := by
        intro l
        induction l with
        | nil => intro _; simp
        | cons x l ih =>
          intro hm
          rw [List.flatMap_cons, List.length_append, List.length_map, List.length_cons, Nat.succ_mul]
          have h1 := List.length_filter_le (p x) (ys x)
          have h2 := hn x (hm x List.mem_cons_self)
          have h3 := ih fun y hy => hm y (List.mem_cons_of_mem _ hy)
          omega
      have h1 := aux (xs.take i) fun x hx => List.mem_of_mem_take hx
      have h2 : (xs.take i).length = i := by rw [List.length_take]; omega
      rw [h2] at h1
      exact h1
    refine ⟨fun i A2 acc => A2 = A1 ∧ i ≤ xs.length ∧ acc = ((xs.take i).flatMap fun x => ((ys x).filter (p x)).map (f x)).map .dat, ⟨rfl, Nat.zero_le _, by simp⟩, fun i s hi A2 acc ⟨e1, e0, e2⟩ => ?_, fun A2 acc ⟨e1, e0, e2⟩ q => ?_⟩
    · subst e1; subst e2
      obtain ⟨x, hx, rfl⟩ := get_enc hi
      have hm := List.mem_of_getElem? hx
      have hlt := (List.getElem?_eq_some_iff.mp hx).1
      refine (hs x hm).imp fun A3 S3 h3 => h3.imp fun A4 b ⟨hb, h4⟩ => ⟨fun _ => IW.imp h4 fun A5 ts ⟨e5, e6, h6⟩ => ?_, fun z => by rw [hb] at z; cases z⟩
      subst e5; subst e6
      have ht : ((xs.take (i + 1)).flatMap fun x => ((ys x).filter (p x)).map (f x)) = ((xs.take i).flatMap fun x => ((ys x).filter (p x)).map (f x)) ++ ((ys x).filter (p x)).map (f x) := by
        rw [List.take_add_one, hx, List.flatMap_append]
        simp
      refine ⟨fun j A7 acc7 => A7 = A5 ∧ j ≤ (ys x).length ∧ acc7 = (((xs.take i).flatMap fun x => ((ys x).filter (p x)).map (f x)) ++ (((ys x).take j).filter (p x)).map (f x)).map .dat, ⟨rfl, Nat.zero_le _, by simp⟩, fun j s1 hj A7 acc7 ⟨e7, e8, e9⟩ => ?_, fun A7 acc7 ⟨e7, e8, e9⟩ => ?_⟩
      · subst e7; subst e9
        obtain ⟨y, hy, rfl⟩ := get_enc hj
        have hjl := (List.getElem?_eq_some_iff.mp hy).1
        refine (h6 y (List.mem_of_getElem? hy)).imp fun A8 S8 h8 => h8.imp fun A9 b ⟨e10, h9, h10⟩ => ⟨fun hb => ?_, fun hb => ?_⟩
        · rw [e10] at hb
          refine (h9 hb).imp fun A10 s10 ⟨e11, e12⟩ => ?_
          subst e11; subst e12
          refine ⟨?_, rfl, hjl, by rw [filter_take (p x) (f x) hy, if_pos hb, ← List.append_assoc, dats_app]⟩
          have h1 := List.length_filter_le (p x) ((ys x).take j)
          have h2 : ((ys x).take j).length = j := by rw [List.length_take]; omega
          have h3 := hn x hm
          have h4 := bound i e0
          have h5 : (i + 1) * n ≤ xs.length * n := Nat.mul_le_mul_right n hlt
          rw [Nat.succ_mul] at h5
          rw [List.length_map, List.length_append, List.length_map]
          omega
        · rw [e10] at hb
          have := h10 hb
          subst this
          exact ⟨rfl, hjl, by rw [filter_take (p x) (f x) hy, if_neg (by rw [hb]; exact Bool.false_ne_true), List.append_nil]⟩
      · subst e7; subst e9
        rw [List.length_map, List.length_map, List.take_length]
        exact ⟨rfl, hlt, by rw [ht]⟩
    · subst e1; subst e2
      rw [List.length_map, List.length_map, List.take_length]
      exact hk q
/-- a loop over encoded things -/
theorem go_forM {enc : α → PyData} {xs : List α} (h : IW K A wi S fun A1 ss => ss = (xs.map enc).map .dat ∧ ∃ J : Nat → KS, J 0 A1 S ∧
    (∀ i x A2 S2, xs[i]? = some x → J i A2 S2 → GW K g (.dat (enc x)) S2 A2 fun A3 S3 => Go K A3 tu S3 (E.loop (J (i + 1)))) ∧ ∀ A2 S2, J xs.length A2 S2 → E.nx A2 S2) : Go K A (tFor wi g tu) S E :=
  go_for <| IW.imp h fun A1 ss ⟨e, J, j0, js, je⟩ => by
    subst e
    refine ⟨J, j0, fun i s A2 S2 hi hj => ?_, fun A2 S2 hj => je A2 S2 (by simpa using hj)⟩
    obtain ⟨x, hx, rfl⟩ := get_enc hi
    exact js i x A2 S2 hx hj
theorem go_forR {n : Nat} (h : IW K A wi S fun A1 ss => ss = irange 0 n ∧ ∃ J : Nat → KS, J 0 A1 S ∧
    (∀ i A2 S2, i < n → J i A2 S2 → GW K g (.dat (.int i)) S2 A2 fun A3 S3 => Go K A3 tu S3 (E.loop (J (i + 1)))) ∧ ∀ A2 S2, J n A2 S2 → E.nx A2 S2) : Go K A (tFor wi g tu) S E :=
  go_for <| IW.imp h fun A1 ss ⟨e, J, j0, js, je⟩ => by
    subst e
    refine ⟨J, j0, fun i s A2 S2 hi hj => ?_, fun A2 S2 hj => je A2 S2 (by rw [irange_length] at hj; exact hj)⟩
    obtain ⟨h1, h2⟩ := irange_get hi
    rw [Int.zero_add] at h2
    subst h2
    exact js i A2 S2 h1 hj
end
end DL
namespace DL
open PySem L2
section
variable {K : PySem.W.Frag} {A A' : Amb} {S S' : List SV} {tk tv : TE} {vs : List Nat} {u u' : TGs}
theorem go_cut {E : DE} {tu : TS} (P : KS) (h : Go K A tu S (E.seq P)) (i : ∀ A1 S1, P A1 S1 → E.nx A1 S1) : Go K A tu S E := fun R F σ H D a sd o => h R F σ H D a sd ⟨fun A1 S1 F1 σ1 H1 hp => o.nx A1 S1 F1 σ1 H1 (i A1 S1 hp), o.bk, o.ct, o.rt⟩
theorem out_frz {R : List (Addr × Cell)} {F : Hp} {Q : VK} {k : KA} (q : OutV K R F Q k) : OutV K R F Q fun A1 s => ∃ p ds l', s = .ptr p ∧ Rem A1.cells p (.lst (ds.map .dat)) l' ∧ k ⟨A1.I, l'⟩ (.dat (.list ds)) := fun A1 s v F1 H1 ⟨p, ds, l', hs, hr, hk⟩ e1 a1 r1 => by
  subst hs
  obtain rfl : v = .ref p := r1
  obtain ⟨F2, e2, a2, d2⟩ := At.frz (A := ⟨A1.I, A1.cells ++ R⟩) a1 hr.app
  exact q _ _ _ _ _ hk (e1.trans e2) a2 d2
theorem cw_frz {r : List V → Hp → VK → Prop} {ss : List SV} (h : CW K r ss A fun A1 s => ∃ p ds l', s = .ptr p ∧ Rem A1.cells p (.lst (ds.map .dat)) l' ∧ k ⟨A1.I, l'⟩ (.dat (.list ds))) : CW K r ss A k := fun R F H vs Q a rs q => h R F H vs Q a rs (out_frz q)
theorem rw_eqS {x y : Str} (h : k A (.dat (.bool (decide (x = y))))) : RW K rEq (.dat (.str x)) (.dat (.str y)) A k := fun R F H v w Q a r1 r2 q => by
  obtain rfl := sr_str r1
  obtain rfl := sr_str r2
  have e : decide (V.str x = V.str y) = decide (x = y) := decide_eq_decide.mpr ⟨fun h => V.str.inj h, fun h => by rw [h]⟩
  exact ⟨rfl, by rw [e]; exact q A _ _ F H h (Same.refl F) a (.bl _)⟩
theorem rw_neS {x y : Str} (h : k A (.dat (.bool (!decide (x = y))))) : RW K rNe (.dat (.str x)) (.dat (.str y)) A k := fun R F H v w Q a r1 r2 q => by
  obtain rfl := sr_str r1
  obtain rfl := sr_str r2
  have e : decide (V.str x = V.str y) = decide (x = y) := decide_eq_decide.mpr ⟨fun h => V.str.inj h, fun h => by rw [h]⟩
  exact ⟨rfl, by rw [e]; exact q A _ _ F H h (Same.refl F) a (.bl _)⟩
def IsD (A : Amb) (s : SV) (d : PyData) : Prop := s = .dat d ∨ ∃ p ds, s = .ptr p ∧ (p, Cell.lst (ds.map .dat)) ∈ A.cells ∧ d = .list ds
theorem wp_isiG {T : String} (h : Wp K A ta S fun A1 s => ∃ d, IsD A1 s d ∧ T ∈ kinds ∧ k A1 (.dat (.bool (isK T d)))) : Wp K A (tCB (rIsiD K) (tCons ta (tCons (tC (.ty T)) tNil))) S k := fun R F σ H Q a sd q =>
  h R F σ H _ a sd fun A1 s v F1 H1 ⟨d, hs, hT, hk⟩ e1 a1 r1 => by
    rcases hs with hs | ⟨p, ds, hs, hp, rfl⟩
    · subst hs
      exact ⟨v, T, d, rfl, hT, Dt.mono a1.same r1, q A1 _ _ F1 H1 hk e1 a1 (.bl _)⟩
    · subst hs
      obtain rfl : v = .ref p := r1
      exact ⟨_, T, .list ds, rfl, hT, a1.cellP hp, q A1 _ _ F1 H1 hk e1 a1 (.bl _)⟩
theorem wp_join {b : Bool} (P : KA) (h1 : b = true → Wp K A ta S P) (h2 : b = false → Wp K A tb S P) (h3 : ∀ A1 s1, P A1 s1 → k A1 s1) : (b = true → Wp K A ta S k) ∧ (b = false → Wp K A tb S k) := ⟨fun h => (h1 h).imp h3, fun h => (h2 h).imp h3⟩
/-- both ways of an if meet -/
theorem if_join {E : DE} {tu tw : TS} {b : Bool} {f : KS} (P : KS) (h1 : b = true → Go K A tu S (E.seq P)) (h2 : b = false → Go K A tw S (E.seq P)) (h3 : ∀ A1 S1, P A1 S1 → f A1 S1) : (b = true → Go K A tu S (E.seq f)) ∧ (b = false → Go K A tw S (E.seq f)) :=
  ⟨fun h => go_cut (E := E.seq f) P (h1 h) h3, fun h => go_cut (E := E.seq f) P (h2 h) h3⟩
/-! ### targets of comprehensions, in short -/
structure TsOk (u : TGs) (vs : List Nat) : Prop where
  mono : TsMono u
  only : TsOnly u vs
theorem tok_nil : TsOk gNil vs := ⟨tms_nil, tos_nil⟩
theorem tok_name {i : Nat} (h : i ∈ vs) (o : TsOk u vs) : TsOk (gCons (gName i) u) vs := ⟨tms_cons tm_name o.mono, tos_cons tm_name o.mono (to_name h) o.only⟩
theorem tok_tup {n : Nat} (o' : TsOk u' vs) (o : TsOk u vs) : TsOk (gCons (gTup K n u') u) vs := ⟨tms_cons (tm_tup o'.mono) o.mono, tos_cons (tm_tup o'.mono) o.mono (to_tup o'.only) o.only⟩
theorem to_tupK {n : Nat} (o : TsOk u vs) : TOnly (gTup K n u) vs := to_tup o.only
theorem wpp_nil {k : Amb → List (SV × SV) → Prop} (h : k A []) : WpP K [] A S k := h
theorem wpp_cons {r : List (TE × TE)} {k : Amb → List (SV × SV) → Prop} (h : Wp K A tk S fun A1 s1 => Wp K A1 tv S fun A2 s2 => WpP K r A2 S fun A3 ps => k A3 ((s1, s2) :: ps)) : WpP K ((tk, tv) :: r) A S k := h
end
/-! ### tables with given keys -/
section
variable {κ : Type} [DecidableEq κ] {x y : κ} {v w : SV} {r : List (κ × SV)}
theorem look_hit : lookS ((x, v) :: r) x = some v := by simp [lookS]
theorem look_miss (h : ¬ y = x) : lookS ((y, v) :: r) x = lookS r x := by
  unfold lookS
  rw [List.find?_cons, decide_eq_false h]
theorem map_out (h : x ∉ r.map (·.1)) : (r.map fun kv => if kv.1 = x then (kv.1, v) else kv) = r := by
  induction r with
  | nil => rfl
  | cons a r ih =>
    rw [List.map_cons, List.mem_cons, not_or] at h
    rw [List.map_cons, ih h.2, if_neg fun e => h.1 e.symm]
theorem any_out (h : x ∉ r.map (·.1)) : (r.any fun kv => decide (kv.1 = x)) = false := by
  induction r with
  | nil => rfl
  | cons a r ih =>
    rw [List.map_cons, List.mem_cons, not_or] at h
    rw [List.any_cons, ih h.2, decide_eq_false fun e => h.1 e.symm]
    rfl
theorem put_hit (h : x ∉ r.map (·.1)) : putS ((x, w) :: r) x v = (x, v) :: r := by
  unfold putS
  rw [List.any_cons, decide_eq_true rfl, Bool.true_or, if_pos rfl, List.map_cons, if_pos rfl, map_out h]
theorem put_miss (h : ¬ y = x) : putS ((y, w) :: r) x v = (y, w) :: putS r x v := by
  unfold putS
  rw [List.any_cons, decide_eq_false h, Bool.false_or, List.map_cons, if_neg h]
  split <;> rfl
theorem put_out (h : x ∉ r.map (·.1)) : putS r x v = r ++ [(x, v)] := by
  unfold putS
  rw [any_out h, if_neg Bool.false_ne_true]
end
theorem merge_nodup_aux : ∀ (more kvs : List (Key × SV)), ((kvs ++ more).map (·.1)).Nodup → mergeS kvs more = kvs ++ more
  | [], kvs, _ => by simp [mergeS]
  | a :: more, kvs, h => by
    have h1 : a.1 ∉ kvs.map (·.1) := fun hm => by
      rw [List.map_append, List.nodup_append] at h
      exact h.2.2 _ hm _ (by simp) rfl
    show mergeS (putS kvs a.1 a.2) more = _
    rw [put_out h1, merge_nodup_aux more (kvs ++ [(a.1, a.2)]) (by simpa using h)]
    simp
theorem merge_nodup {kvs : List (Key × SV)} (h : (kvs.map (·.1)).Nodup) : mergeS [] kvs = kvs := merge_nodup_aux kvs [] h
end DL

/-! The rules with the written part named (so they may stand within a comprehension). -/
namespace DL
open PySem L2
section
variable {X : Cx}
theorem ixK (K : PySem.W.Frag) (h : X.K = K := by rfl) : IxR X (rIx K) := h ▸ ix_seq
theorem op_eqK (K : PySem.W.Frag) (hu : X.A.units + 65 < cLine) (h : X.K = K := by rfl) : OpR X (compareOp .Eq) (rEqD K) := h ▸ op_eqA hu
theorem op_neK (K : PySem.W.Frag) (hu : X.A.units + 65 < cLine) (h : X.K = K := by rfl) : OpR X (compareOp .NotEq) (rNeD K) := h ▸ op_neA hu
theorem op_inK (K : PySem.W.Frag) (hu : X.A.units + 65 < cLine) (h : X.K = K := by rfl) : OpR X (compareOp .In) (rInTD K) := h ▸ op_inTD hu
theorem op_niK (K : PySem.W.Frag) (hu : X.A.units + 65 < cLine) (h : X.K = K := by rfl) : OpR X (compareOp .NotIn) (rNotInTD K) := h ▸ op_notInTD hu
theorem call_lenK (K : PySem.W.Frag) (h : X.K = K := by rfl) : CallR X (.builtin "len") (rLenD K) := h ▸ call_lenA
theorem call_listK (K : PySem.W.Frag) (h : X.K = K := by rfl) : CallR X (.type "list") (rListD2 K) := h ▸ call_listA
theorem call_tupK (K : PySem.W.Frag) (h : X.K = K := by rfl) : CallR X (.type "tuple") (rTupD2 K) := h ▸ call_tupA
theorem cr_sortK (K : PySem.W.Frag) (hu : X.A.units + 65 < cLine) (h : X.K = K := by rfl) : CallR X (.builtin "sorted") (rSortedD K) := h ▸ cr_sortedD hu
theorem cr_reprK (K : PySem.W.Frag) (hu : X.A.units + 65 < cLine) (hg : X.A.guards = some []) (h : X.K = K := by rfl) : CallR X (.builtin "repr") (rReprD K) := h ▸ cr_reprD hu hg
theorem call_isiK2 (K : PySem.W.Frag) (h : X.K = K := by rfl) : CallR X (.builtin "isinstance") (rIsiD K) := h ▸ call_isiD
theorem pi_listK {tg l : Expr} {tl : TE} (K : PySem.W.Frag) (hl : PE X l tl) (h : X.K = K := by rfl) : PI X tg l (iList K tl) := h ▸ pi_list hl
theorem pi_tupK {tg l : Expr} {tl : TE} (K : PySem.W.Frag) (hl : PE X l tl) (h : X.K = K := by rfl) : PI X tg l (iTup K tl) := h ▸ pi_tup hl
theorem pg_tupK {es : List Expr} {k : Nat} {pos : Pos} {t : TGs} (K : PySem.W.Frag) (n : Nat) (hc : X.calm = true) (hp : PGs X es t) (hn : (assignEach es X.env).length = n := by rfl) (hst : (assignEach es X.env).findIdx? (·.1) = none := by rfl) (h : X.K = K := by rfl) : PG X (.Tuple es k pos) (gTup K n t) := h ▸ pg_tup hc hp hn hst
end
end DL

/-! How long what repr tells is. -/
namespace DL
open PySem L2
theorem str_app_len (a b : Str) : (a ++ b).length = a.length + b.length := Str.length_append a b
theorem textFrom_le : ∀ (ts : List Str) (j : Nat) (acc : Str), (textFrom j acc ts).length ≤ acc.length + piled ts
  | [], j, acc => by simp [textFrom]
  | t :: r, j, acc => by
    have h := textFrom_le r (j + 1) (acc ++ (if j > 0 then ", " else "" : String) ++ t)
    have e : (textFrom j acc (t :: r)) = textFrom (j + 1) (acc ++ (if j > 0 then ", " else "" : String) ++ t) r := rfl
    rw [e]
    refine Nat.le_trans h ?_
    rw [str_app_len, str_app_len]
    have h2 : ((if j > 0 then ", " else "" : String) : Str).length ≤ 2 := by
      split <;> decide +kernel
    have h3 : piled (t :: r) = t.length + 2 + piled r := by simp [piled] <;> omega
    omega
theorem listText_le (ts : List Str) : (listText ts).length ≤ piled ts + 2 := by
  unfold listText
  rw [str_app_len]
  have h := textFrom_le ts 0 "["
  have h1 : ("[" : Str).length = 1 := by decide +kernel
  have h2 : ("]" : Str).length = 1 := by decide +kernel
  omega
theorem tupleText_le (ts : List Str) : (tupleText ts).length ≤ piled ts + 3 := by
  unfold tupleText
  rw [str_app_len, str_app_len]
  have h1 : ("(" : Str).length = 1 := by decide +kernel
  have h2 : ((if ts.length == 1 then ",)" else ")" : String) : Str).length ≤ 2 := by
    split <;> decide +kernel
  have h3 : (Str.join ", " ts).length ≤ piled ts := by
    cases ts with
    | nil => decide +kernel
    | cons t r =>
      have := join_length_add (t :: r) (by simp)
      omega
  omega
mutual
/-- numbers of few figures, no texts, no dicts -/
def smallD : PyData → Bool
  | .none | .bool _ => true
  | .int i => decide (i.natAbs < 10 ^ 10)
  | .str _ | .dict _ => false
  | .list xs | .tuple xs => smallA xs
def smallA : List PyData → Bool
  | [] => true
  | x :: xs => smallD x && smallA xs
end
mutual
def wtD : PyData → Nat
  | .none | .bool _ => 5
  | .int _ => 11
  | .str _ | .dict _ => 0
  | .list xs | .tuple xs => wtA xs + 3
def wtA : List PyData → Nat
  | [] => 0
  | x :: xs => wtD x + 2 + wtA xs
end
mutual
theorem shown_le : ∀ d : PyData, smallD d = true → d.shown.length ≤ wtD d ∧ d.showable = true ∧ d.hasDict = false
  | .none, _ => ⟨by decide +kernel, by simp [PyData.showable], by simp [PyData.hasDict]⟩
  | .bool b, _ => ⟨by cases b <;> decide +kernel, by simp [PyData.showable], by simp [PyData.hasDict]⟩
  | .int i, h => by
    have h1 : i.natAbs < 10 ^ 10 := by simpa [smallD] using h
    refine ⟨?_, ?_, by simp [PyData.hasDict]⟩
    · show ((toString i : String) : Str).length ≤ 11
      have h2 := int_text_length_le10 (a := i) (k := 10) (by decide) h1
      rw [ofString_length]
      exact h2
    · simp only [PyData.showable, decide_eq_true_eq]
      have h3 : i.natAbs.log2 ≤ 34 := by
        by_cases z : i.natAbs = 0
        · rw [z]; decide
        · have := (Nat.log2_lt z (k := 35)).mpr (by omega)
          omega
      omega
  | .str _, h => by simp [smallD] at h
  | .dict _, h => by simp [smallD] at h
  | .list xs, h => by
    obtain ⟨h1, h2, h3⟩ := shownA_le xs (by simpa [smallD] using h)
    refine ⟨?_, by simpa [PyData.showable] using h2, by simpa [PyData.hasDict] using h3⟩
    have h4 := listText_le (PyData.shownAll xs)
    simp only [PyData.shown, wtD]
    omega
  | .tuple xs, h => by
    obtain ⟨h1, h2, h3⟩ := shownA_le xs (by simpa [smallD] using h)
    refine ⟨?_, by simpa [PyData.showable] using h2, by simpa [PyData.hasDict] using h3⟩
    have h4 := tupleText_le (PyData.shownAll xs)
    simp only [PyData.shown, wtD]
    omega
theorem shownA_le : ∀ xs : List PyData, smallA xs = true → piled (PyData.shownAll xs) ≤ wtA xs ∧ PyData.showableAll xs = true ∧ PyData.hasDictAll xs = false
  | [], _ => ⟨by simp [PyData.shownAll, piled, wtA], by simp [PyData.showableAll], by simp [PyData.hasDictAll]⟩
  | x :: xs, h => by
    simp only [smallA, Bool.and_eq_true] at h
    obtain ⟨h1, h2, h3⟩ := shown_le x h.1
    obtain ⟨h4, h5, h6⟩ := shownA_le xs h.2
    refine ⟨?_, by simp [PyData.showableAll, h2, h5], by simp [PyData.hasDictAll, h3, h6]⟩
    have h7 : piled (PyData.shownAll (x :: xs)) = x.shown.length + 2 + piled (PyData.shownAll xs) := by
      simp [PyData.shownAll, piled] <;> omega
    rw [h7]
    simp only [wtA]
    omega
end
theorem smallA_mem : ∀ {xs : List PyData}, smallA xs = true ↔ ∀ x ∈ xs, smallD x = true
  | [] => by simp [smallA]
  | x :: xs => by simp [smallA, smallA_mem (xs := xs)]
theorem wtA_le {n : Nat} : ∀ {xs : List PyData}, (∀ x ∈ xs, wtD x ≤ n) → wtA xs ≤ xs.length * (n + 2)
  | [], _ => by simp [wtA]
  | x :: xs, h => by
    have h1 := h x List.mem_cons_self
    have h2 := wtA_le (xs := xs) fun y hy => h y (List.mem_cons_of_mem _ hy)
    simp only [wtA, List.length_cons, Nat.succ_mul]
    omega
section
variable {K : PySem.W.Frag} {A : Amb} {k : KA}
/-- repr of a list or tuple of small things -/
theorem cw_reprS {d : PyData} (hc : (∃ ds, d = .list ds) ∨ ∃ ds, d = .tuple ds) (hs : smallD d = true) (hw : wtD d ≤ 1000000) (hd : d.depth ≤ 60) (h : k A (.dat (.str d.shown))) : CW K (rReprD K) [.dat d] A k := by
  obtain ⟨h1, h2, h3⟩ := shown_le d hs
  exact cw_reprD h2 h3 hd (Nat.le_trans h1 (Nat.le_trans hw (by decide))) h
theorem cw_reprSP {p : Addr} {ds : List PyData} (hp : (p, .lst (ds.map .dat)) ∈ A.cells) (hs : smallA ds = true) (hw : wtA ds ≤ 900000) (hd : PyData.depthAll ds ≤ 50) (h : k A (.dat (.str (PyData.list ds).shown))) : CW K (rReprD K) [.ptr p] A k := by
  obtain ⟨h1, h2, h3⟩ := shown_le (.list ds) (by simpa [smallD] using hs)
  refine cw_reprP hp h2 h3 (by simp only [PyData.depth]; omega) (Nat.le_trans h1 (Nat.le_trans (by simp only [wtD]; omega : _ ≤ 1000000) (by decide))) h
theorem cw_reprSL {ds : List PyData} (hs : smallA ds = true) (hw : wtA ds ≤ 900000) (hd : PyData.depthAll ds ≤ 50) (h : k A (.dat (.str (PyData.list ds).shown))) : CW K (rReprD K) [.dat (.list ds)] A k :=
  cw_reprS (.inl ⟨_, rfl⟩) (by simpa [smallD] using hs) (by simp only [wtD]; omega) (by simp only [PyData.depth]; omega) h
end
end DL

/-! sum of lists, from a list on. -/
namespace DL
open PySem L2
open Sem (wp)
section
variable {prog : Program} {w : World} {A : Around} {R : Result → Shared → Prop}
abbrev lobj (its : List Value) (n : Nat) : Obj := { cls := .type "list", data := .seq its.toArray n }
theorem args_sum2 (a b : Value) : argsOk "sum" ⟨[a, b], []⟩ := by unfold argsOk; kernel_rfl
theorem codeAny_sumL {h₀ : Heap} {I ax : Addr} {its : Array Value} {rows : List (List Value)} (W : Walks prog w A.in1 I [I, ax] [I] its.size (fun i v => its[i]? = some v) (fun i h => h.IsListIter I ax i ∧ h.IsList ax its))
    (hI : h₀.get? I = none) (S : Addr) (hS0 : h₀.objs.size ≤ S) (hSI : S ≠ I) (hSa : S ≠ ax)
    (hrows : ∀ (i : Nat) (v : Value), its[i]? = some v → ∃ (b : Addr) (vs : List Value) (n : Nat), v = Value.ref b ∧ rows[i]? = some vs ∧ h₀.get? b = some (lobj vs n)) (hlen : rows.length = its.size) (hz : (rows.map List.length).sum ≤ sizeLine) :
    ∀ (k i : Nat) (s : Shared) (T : Addr) (acc : List Value) (n c : Nat), its.size - i = k → i ≤ its.size → s.heap.IsListIter I ax i ∧ s.heap.IsList ax its → s.heap.get? S = some { cls := .type "list", dict := none, data := .seq #[.ref T] c, slots := #[] } →
    s.heap.get? T = some (lobj acc n) → T ≠ I → T ≠ S → acc.length ≤ ((rows.take i).map List.length).sum → (∀ b o, h₀.get? b = some o → s.heap.get? b = some o) →
    (∀ h' tk T' n', (∀ b o, h₀.get? b = some o → h'.get? b = some o) → h'.get? T' = some (lobj (acc ++ (rows.drop i).flatten) n') → (i = its.size → T' = T) → (i < its.size → h₀.objs.size ≤ T') → R (.ok (.ret (.ref T'))) { s with heap := h', toks := tk }) →
    codeAny (model prog w) A (.builtin "sum.loop" ⟨[.ref I, .ref S, rawInt 2, rawInt 0], []⟩) R s := by
  intro k
  induction k with
  | zero =>
    intro i s T acc n c hk hi hst hS hT hTI hTS ha hb hR
    have hin : i = its.size := by omega
    refine codeAny_builtin PySem.F.entry_sum_loop ?_
    rw [Around.under_plainId PySem.F.plain_sum_loop _]
    show wpAny _ A.in1 (seqItems? (.ref S) >>= _) _ _ s
    refine wpAny_bind (wpAny_seqItems hS rfl ?_)
    show wpAny _ A.in1 (tryCatch (pyNext (.ref I)) _ >>= _) _ _ s
    refine wpAny_bind (wpAny_tryCatch (W.done s _ _ (hin ▸ hst) fun h' tk hk' => ?_))
    refine wpAny_pure (hR h' tk T n (fun b o e => hk' b o (fun hm => ?_) (hb b o e)) ?_ (fun _ => rfl) (fun hlt => absurd hlt (by omega)))
    · rw [List.mem_singleton.mp hm, hI] at e
      cases e
    · rw [List.drop_of_length_le (by omega), List.flatten_nil, List.append_nil]
      exact hk' _ _ (fun hm => hTI (List.mem_singleton.mp hm)) hT
  | succ k ih =>
    intro i s T acc n c hk hi hst hS hT hTI hTS ha hb hR
    have hlt : i < its.size := by omega
    refine codeAny_builtin PySem.F.entry_sum_loop ?_
    rw [Around.under_plainId PySem.F.plain_sum_loop _]
    show wpAny _ A.in1 (seqItems? (.ref S) >>= _) _ _ s
    refine wpAny_bind (wpAny_seqItems hS rfl ?_)
    show wpAny _ A.in1 (tryCatch (pyNext (.ref I)) _ >>= _) _ _ s
    refine wpAny_bind (wpAny_tryCatch (W.item i s _ _ hlt hst fun v h' tk hP hst' hk' => ?_))
    obtain ⟨b, vs, nb, rfl, hr, hbo⟩ := hrows i v hP
    have hS' := hk' S _ (fun hm => hSI (List.mem_singleton.mp hm)) hS
    have hT' := hk' T _ (fun hm => hTI (List.mem_singleton.mp hm)) hT
    have hb0 : ∀ c o, h₀.get? c = some o → h'.get? c = some o := fun c o e => hk' c o (fun hm => by rw [List.mem_singleton.mp hm, hI] at e; cases e) (hb c o e)
    have hb' := hb0 b _ hbo
    have hsum : ((rows.take (i + 1)).map List.length).sum = ((rows.take i).map List.length).sum + vs.length := by
      rw [List.take_add_one, hr]; simp
    have hle : ((rows.take (i + 1)).map List.length).sum ≤ (rows.map List.length).sum := by
      have e := congrArg (fun l => (l.map List.length).sum) (List.take_append_drop (i + 1) rows)
      simp only [List.map_append, List.sum_append] at e
      omega
    have hz2 : acc.toArray.size + vs.toArray.size ≤ sizeLine := by
      rw [List.size_toArray, List.size_toArray]
      omega
    show wpAny _ A.in1 ((holding [Value.ref b] (binaryOp .Add (.ref T) (.ref b))).attempt >>= _) _ _ _
    refine wpAny_bind (wpAny_attempt (wpAny_holding (PySem.P.add_list hT' hb' ?_ hz2)))
    have ea : acc.toArray ++ vs.toArray = (acc ++ vs).toArray := by simp
    rw [ea]
    have hSlt : S < h'.objs.size := Heap.lt_size hS'
    have hsz : h₀.objs.size ≤ h'.objs.size := Nat.le_trans hS0 (Nat.le_of_lt hSlt)
    have hIlt : I < h'.objs.size := by obtain ⟨_, e, _⟩ := hst'.1; exact Heap.lt_size e
    have hnT : (h'.push (lobj (acc ++ vs) 0)).get? h'.objs.size = some (lobj (acc ++ vs) 0) := Heap.get?_push_size _ rfl
    have hnS := Heap.get?_push_of_some (lobj (acc ++ vs) 0) hS'
    refine wpAny_bind (wpAny_updateSeq hnS rfl ?_)
    have hS₂ := Heap.get?_update_self (Obj.mapSeq fun _ => #[Value.ref h'.objs.size]) hnS rfl
    refine wpAny_bind (wpAny_letGo ?_)
    refine wpAny_bind (wpAny_updateSeq hS₂ rfl (wpAny_pure ⟨plainId_quiet PySem.F.plain_sum_loop _, ?_⟩))
    have up : ∀ b o, b ≠ S → h'.get? b = some o → (((h'.push (lobj (acc ++ vs) 0)).update S (Obj.mapSeq fun _ => #[Value.ref h'.objs.size])).update S (Obj.mapSeq fun _ => #[Value.ref h'.objs.size])).get? b = some o := fun b o hne e =>
      (Heap.get?_update_other _ _ (Ne.symm hne)).trans ((Heap.get?_update_other _ _ (Ne.symm hne)).trans (Heap.get?_push_of_some _ e))
    refine ih (i + 1) _ h'.objs.size (acc ++ vs) 0 _ (by omega) hlt (W.frame _ _ _ hst' fun b hb o e => up b o ?_ e) (Heap.get?_update_self _ hS₂ rfl) ?_ (Nat.ne_of_gt hIlt) (Nat.ne_of_gt hSlt) (by rw [List.length_append]; omega) (fun b o e => up b o ?_ (hb0 b o e)) fun h3 tk3 T3 n3 k3 e3 l3 g3 => ?_
    · intro e2
      subst e2
      rcases List.mem_cons.mp hb with e2 | hb
      · exact hSI e2
      · exact hSa (List.mem_singleton.mp hb)
    · exact (Heap.get?_update_other _ _ (Nat.ne_of_lt hSlt)).trans ((Heap.get?_update_other _ _ (Nat.ne_of_lt hSlt)).trans hnT)
    · intro e2
      subst e2
      exact Nat.lt_irrefl _ (Nat.lt_of_lt_of_le (Heap.lt_size e) hS0)
    · refine hR h3 tk3 T3 n3 k3 ?_ (fun e => absurd e (by omega)) fun _ => ?_
      · have e4 : rows.drop i = vs :: rows.drop (i + 1) := by
          have hi2 := (List.getElem?_eq_some_iff.mp hr).1
          rw [List.drop_eq_getElem_cons hi2]
          congr 1
          exact (List.getElem?_eq_some_iff.mp hr).2
        rw [e4, List.flatten_cons, ← List.append_assoc]
        exact e3
      · by_cases e : i + 1 < its.size
        · exact g3 e
        · rw [l3 (by omega)]
          exact hsz
theorem call_sumL_raw {E : Value → Shared → Prop} {s : Shared} {l b0 : Addr} {its : Array Value} {rows : List (List Value)} {n0 : Nat} {Q : Value → Shared → Prop} (hh : A.handled = none) (hl : s.heap.IsList l its) (hb : s.heap.get? b0 = some (lobj [] n0))
    (hrows : ∀ (i : Nat) (v : Value), its[i]? = some v → ∃ (b : Addr) (vs : List Value) (n : Nat), v = Value.ref b ∧ rows[i]? = some vs ∧ s.heap.get? b = some (lobj vs n)) (hlen : rows.length = its.size) (hz : (rows.map List.length).sum ≤ sizeLine)
    (h : ∀ h' tk T n, (∀ b o, s.heap.get? b = some o → h'.get? b = some o) → h'.get? T = some (lobj rows.flatten n) → (its.size = 0 → T = b0) → (0 < its.size → s.heap.objs.size ≤ T) → Q (.ref T) { s with heap := h', toks := tk }) :
    wpAny (model prog w) A (call (.builtin "sum") [.ref l, .ref b0]) Q E s := by
  refine call_function_tree PySem.F.kind_sum PySem.F.plain_sum PySem.F.entry_sum (args_sum2 _ _) ?_
  unfold Builtin.«sum»
  simp only [List.length_cons, List.length_nil]
  rw [if_neg (by decide)]
  refine wpAny_bind (wpAny_of_eq (show Builtin.Builtins.bindParams "sum" ["start"] 0 ⟨[.ref b0], []⟩ = pure [some (.ref b0)] from rfl) ?_)
  refine wpAny_bind (PySem.Flt.iter_list_ hl fun s₂ e st hfp hlI => ?_)
  subst e
  refine wpAny_bind (wpAny_pure ?_)
  simp only [List.forIn_cons, List.forIn_nil]
  have hb2 := Heap.get?_push_of_some { cls := .type "list_iterator", data := .fields #[.ref l, .int 0 0] } hb
  have hT : Shared.TypeIs { s with heap := s.heap.push { cls := .type "list_iterator", data := .fields #[.ref l, .int 0 0] } } (.ref b0) "list" := ⟨_, hb2, rfl⟩
  refine wpAny_bind (wpAny_bind (wpAny_bind (wpAny_isInstance (T := "list") (b := false) hT PySem.F.sub_list_str ?_)))
  simp only [Bool.false_eq_true, if_false]
  refine wpAny_pure (wpAny_bind (wpAny_bind (wpAny_isInstance (T := "list") (b := false) hT PySem.F.sub_list_bytes ?_)))
  simp only [Bool.false_eq_true, if_false]
  refine wpAny_pure (wpAny_bind (wpAny_bind (wpAny_isInstance (T := "list") (b := false) hT PySem.F.sub_list_bytearray ?_)))
  simp only [Bool.false_eq_true, if_false]
  refine wpAny_pure (wpAny_pure ?_)
  refine wpAny_bind (wpAny_newObj_type ?_)
  have hsz1 : (s.heap.push { cls := .type "list_iterator", data := .fields #[.ref l, .int 0 0] }).objs.size = s.heap.objs.size + 1 := Heap.size_push ..
  have hnone : s.heap.get? s.heap.objs.size = none := by
    cases e : s.heap.get? s.heap.objs.size with
    | none => rfl
    | some o => exact absurd (Heap.lt_size e) (Nat.lt_irrefl _)
  have up : ∀ b o, s.heap.get? b = some o → ((s.heap.push { cls := .type "list_iterator", data := .fields #[.ref l, .int 0 0] }).push { cls := .type "list", data := .seq #[.ref b0] }).get? b = some o := fun b o e => Heap.get?_push_of_some _ (Heap.get?_push_of_some _ e)
  have hlt : l < s.heap.objs.size := by obtain ⟨_, e, _⟩ := hl; exact Heap.lt_size e
  have hb0 : b0 < s.heap.objs.size := Heap.lt_size hb
  refine wpAny_pure ⟨plainId_quiet PySem.F.plain_sum_loop _, codeAny_sumL (h₀ := s.heap) (rows := rows) (Walks.list (A := A.in1) hh _ l hlI its) hnone _ (by rw [hsz1]; exact Nat.le_succ _) (by rw [hsz1]; exact Nat.succ_ne_self _) (by rw [hsz1]; exact Nat.ne_of_gt (Nat.lt_succ_of_lt hlt))
    hrows hlen hz its.size 0 _ b0 [] n0 0 rfl (Nat.zero_le _) ⟨?_, ?_⟩ (Heap.get?_push_size _ rfl) (up _ _ hb) (Nat.ne_of_lt hb0) (by rw [hsz1]; exact Nat.ne_of_lt (Nat.lt_succ_of_lt hb0)) (Nat.zero_le _) up fun h' tk T' n' k e l1 g => ?_⟩
  · obtain ⟨o, e, a, b⟩ := st.1
    exact ⟨o, Heap.get?_push_of_some _ e, a, b⟩
  · exact st.2.push _
  · exact h h' tk T' n' k (by simpa using e) (fun e => l1 e.symm) g
end
inductive RowsOf (H : Hp) : List V → List (List V) → Prop
  | nil : RowsOf H [] []
  | cons {b : Addr} {ys : List V} {vs : List V} {yss : List (List V)} : H b = some (.lst ys) → RowsOf H vs yss → RowsOf H (.ref b :: vs) (ys :: yss)
def rSumL (K : PySem.W.Frag) : List V → Hp → VK → Prop := fun vs H Q => ∃ (a b0 : Addr) (xs : List V) (yss : List (List V)), vs = [V.ref a, V.ref b0] ∧ SqL K H a xs ∧ H b0 = some (.lst []) ∧ RowsOf H xs yss ∧ (yss.map List.length).sum ≤ sizeLine ∧
  (xs = [] → Q (.ref b0) H) ∧ (∀ T, H T = none → Q (.ref T) (upd H T (.lst yss.flatten)))
section
variable {X : Cx} {pins : List (Addr × Obj)} {σ : St} {H : Hp} {s : Shared}
theorem rows_raw (I : Inv X pins σ H s) : ∀ {xs : List V} {yss : List (List V)} {its : List Value}, RowsOf H xs yss → Vals xs its → ∃ rows : List (List Value), rows.length = its.length ∧ Vals yss.flatten rows.flatten ∧ (rows.map List.length).sum = (yss.map List.length).sum ∧
    ∀ (i : Nat) (v : Value), its[i]? = some v → ∃ (b : Addr) (vs : List Value) (n : Nat), v = Value.ref b ∧ rows[i]? = some vs ∧ s.heap.get? b = some (lobj vs n)
  | _, _, _, .nil, .nil => ⟨[], rfl, .nil, rfl, fun i v e => by simp at e⟩
  | _, _, _, .cons hb hr, .cons r1 r2 => by
    obtain ⟨rows, h1, h2, h3, h4⟩ := rows_raw I hr r2
    obtain ⟨_, its, n, r, hl, e⟩ := I.lstM hb
    cases r1
    refine ⟨its :: rows, by simp [h1], ?_, by simp [h3, hl], fun i v hv => ?_⟩
    · rw [List.flatten_cons, List.flatten_cons]
      exact r.append h2
    · cases i with
      | zero =>
        simp at hv
        subst hv
        exact ⟨_, its, n, rfl, rfl, e⟩
      | succ i => exact h4 i v (by simpa using hv)
theorem call_sumL (hc : X.calm = true) : CallR X (.builtin "sum") (rSumL X.K) := by
  intro pins s σ H vs us Q I r h
  obtain ⟨a, b0, xs, yss, rfl, hs, hb, hr, hz, q0, q1⟩ := h
  obtain ⟨its, rv, hl, _⟩ := I.list hs
  obtain ⟨_, ib, nb, rb, lb, eb⟩ := I.lstM hb
  cases rb
  obtain ⟨rows, e1, e2, e3, e4⟩ := rows_raw I hr rv
  have hus : us = [.ref a, .ref b0] := by
    cases r with
    | cons ra r =>
      cases r with
      | cons rb r =>
        cases r
        cases ra
        cases rb
        rfl
  rw [hus]
  refine call_sumL_raw (rows := rows) (I.ok.hd hc) hl.isList eb (by simpa using e4) (by simp [e1]) (by rw [e3]; exact hz) fun h' tk T n k hT l0 g => ?_
  by_cases hx : xs = []
  · subst hx
    cases rv
    rw [l0 rfl]
    exact ⟨.ref _, H, I.kept k, rfl, q0 rfl⟩
  · have hp : 0 < its.toArray.size := by
      have := rv.length
      have : xs.length ≠ 0 := fun e => hx (List.eq_nil_of_length_eq_zero e)
      rw [List.size_toArray]
      omega
    have hf : yss.flatten.length ≤ sizeLine := by rw [List.length_flatten]; exact hz
    exact ⟨.ref T, _, I.laid (o := .lst yss.flatten) k (g hp) ⟨hf, _, n, e2, hT⟩, rfl, q1 T (I.hok.fresh (g hp))⟩
end
theorem call_sumLK (K : PySem.W.Frag) {X : Cx} (hc : X.calm = true) (hK : X.K = K := by rfl) : CallR X (.builtin "sum") (rSumL K) := by
  subst hK
  exact call_sumL hc
section
variable {K : PySem.W.Frag} {A : Amb} {k : Amb → SV → Prop}
theorem rows_of {F : Hp} : ∀ {xs : List V} {dss : List (List PyData)}, DtAll K F xs (dss.map PyData.list) → ∃ yss, RowsOf F xs yss ∧ DtAll K F yss.flatten dss.flatten ∧ (yss.map List.length).sum = (dss.map List.length).sum
  | _, [], .nil => ⟨[], .nil, .nil, rfl⟩
  | _, d :: ds, .cons h1 h2 => by
    obtain ⟨yss, h3, h4, h5⟩ := rows_of h2
    cases h1 with
    | lst e r => exact ⟨_ :: yss, .cons e h3, r.append h4, by simp [h5, r.length]⟩
theorem RowsOf.mono {F F' : Hp} (e : Same F F') : ∀ {xs : List V} {yss : List (List V)}, RowsOf F xs yss → RowsOf F' xs yss
  | _, _, .nil => .nil
  | _, _, .cons h r => .cons (e _ _ h) (RowsOf.mono e r)
/-- sum of data lists, from [] on -/
theorem cw_sumL {dss : List (List PyData)} (hz : (dss.map List.length).sum ≤ sizeLine) (h : k A (.dat (.list dss.flatten))) : CW K (rSumL K) [.dat (.list (dss.map PyData.list)), .dat (.list [])] A k := fun R F H vs Q a r q => by
  obtain ⟨v, w, rfl, r1, r2⟩ := two_of r
  obtain ⟨p, xs, rfl, h1, h2⟩ := sr_lst r1
  obtain ⟨p2, xs2, rfl, h3, h4⟩ := sr_lst r2
  cases h4
  obtain ⟨yss, e1, e2, e3⟩ := rows_of h2
  refine ⟨p, p2, xs, yss, rfl, .inl (.inl (a.same _ _ h1)), a.same _ _ h3, e1.mono a.same, by rw [e3]; exact hz, fun hx => ?_, fun T hT => ?_⟩
  · subst hx
    cases e1
    cases dss with
    | cons _ _ => cases h2
    | nil => exact q A _ _ F H h (Same.refl F) a r2
  · obtain ⟨a2, e4⟩ := a.alloc (o := .lst yss.flatten) hT
    exact q A _ _ _ _ h e4 a2 (.lst upd_same (e2.mono e4))
end
end DL

/-! Slices, texts, lists that are written to. -/
namespace DL
open PySem L2
def WpO (K : PySem.W.Frag) (A : Amb) (t : TO) (S : List SV) (k : Amb → Option Int → Prop) : Prop := ∀ R F σ H (Q : Option Int → Hp → Prop), AtR K A R F H → SD K F σ S → (∀ A1 o F1 H1, k A1 o → Same F F1 → AtR K A1 R F1 H1 → Q o H1) → t σ H Q
def SW (K : PySem.W.Frag) (r : V → Option Int → Option Int → Hp → VK → Prop) (s : SV) (lo hi : Option Int) (A : Amb) (k : KA) : Prop := ∀ R F H v Q, AtR K A R F H → SR K F v s → OutV K R F Q k → r v lo hi H Q
section
variable {K : PySem.W.Frag} {A A' : Amb} {S S' : List SV} {k k' : KA} {ta tb te : TE} {tl th : TO} {t u : TT} {r : R2} {s s1 s2 : SV} {E : DE}
theorem wpo_none {k : Amb → Option Int → Prop} (h : k A none) : WpO K A tNoPart S k := fun R F σ H Q a sd q => q A none F H h (Same.refl F) a
theorem wpo_some {k : Amb → Option Int → Prop} (h : Wp K A te S fun A1 s => ∃ i, s = .dat (.int i) ∧ k A1 (some i)) : WpO K A (tPart te) S k := fun R F σ H Q a sd q =>
  h R F σ H _ a sd fun A1 s v F1 H1 ⟨i, hs, hk⟩ e1 a1 r1 => by
    subst hs
    exact ⟨i, sr_int r1, q A1 _ F1 H1 hk e1 a1⟩
theorem wp_sl {r : V → Option Int → Option Int → Hp → VK → Prop} (h : Wp K A te S fun A1 s => WpO K A1 tl S fun A2 lo => WpO K A2 th S fun A3 hi => SW K r s lo hi A3 k) : Wp K A (tSl r te tl th) S k := fun R F σ H Q a sd q =>
  h R F σ H _ a sd fun A1 s v F1 H1 h1 e1 a1 r1 => h1 R F1 σ H1 _ a1 (sd.mono e1) fun A2 lo F2 H2 h2 e2 a2 => h2 R F2 σ H2 _ a2 ((sd.mono e1).mono e2) fun A3 hi F3 H3 h3 e3 a3 =>
    h3 R F3 H3 v Q a3 ((r1.mono e2).mono e3) (q.mono ((e1.trans e2).trans e3))
/-- what a slice keeps -/
def cutD {α : Type} (xs : List α) (lo hi : Option Int) : List α := (xs.drop (HT.sIx xs.length 0 lo)).take (HT.sIx xs.length xs.length hi - HT.sIx xs.length 0 lo)
theorem cutD_map {α β : Type} (f : α → β) (xs : List α) (lo hi : Option Int) : cutD (xs.map f) lo hi = (cutD xs lo hi).map f := by
  unfold cutD
  rw [List.length_map, List.map_take, List.map_drop]
theorem cut_dt {F : Hp} {xs : List V} {ds : List PyData} (h : DtAll K F xs ds) (lo hi : Option Int) : DtAll K F (cutV xs lo hi) (cutD ds lo hi) := by
  unfold cutV cutD
  rw [h.length]
  exact (h.drop _).take _
theorem cut_whole {α : Type} {xs : List α} {lo hi : Option Int} (h : HT.sIx xs.length 0 lo = 0 ∧ HT.sIx xs.length xs.length hi = xs.length) : cutD xs lo hi = xs := by
  unfold cutD
  rw [h.1, h.2, List.drop_zero, Nat.sub_zero, List.take_length]
theorem sl_listK (K : PySem.W.Frag) {X : Cx} (h : X.K = K := by rfl) : SlR X (rSlL K) := h ▸ sl_list
theorem sl_tupK (K : PySem.W.Frag) {X : Cx} (h : X.K = K := by rfl) : SlR X (rSlA K) := h ▸ sl_tupA
theorem sw_list {ds : List PyData} {lo hi : Option Int} (h : k A (.dat (.list (cutD ds lo hi)))) : SW K (rSlL K) (.dat (.list ds)) lo hi A k := fun R F H v Q a r q => by
  obtain ⟨p, xs, rfl, h1, h2⟩ := sr_lst r
  refine ⟨p, xs, rfl, .inl (.inl (a.same _ _ h1)), fun n hn => ?_⟩
  obtain ⟨a2, e2⟩ := a.alloc (o := .lst (cutV xs lo hi)) hn
  exact q A _ _ _ _ h e2 a2 (.lst upd_same ((cut_dt h2 lo hi).mono e2))
theorem ints_dt (F : Hp) : ∀ ms : List Int, DtAll K F (ms.map V.int) (ms.map PyData.int)
  | [] => .nil
  | m :: ms => .cons (.int m) (ints_dt F ms)
theorem sw_scr {ns : List Int} {lo hi : Option Int} (h : k A (.dat (.list ((cutD ns lo hi).map .int)))) : SW K (rSlL K) (.scr ns) lo hi A k := fun R F H v Q a r q => by
  obtain ⟨p, rfl, h1⟩ := r
  refine ⟨p, _, rfl, a.same.seq h1, fun n hn => ?_⟩
  obtain ⟨a2, e2⟩ := a.alloc (o := .lst (cutV (ns.map V.int) lo hi)) hn
  have e : cutV (ns.map V.int) lo hi = (cutD ns lo hi).map V.int := cutD_map V.int ns lo hi
  exact q A _ _ _ _ h e2 a2 (.lst upd_same (e ▸ ints_dt _ _))
theorem sw_tup {ds : List PyData} {lo hi : Option Int} (h : k A (.dat (.tuple (cutD ds lo hi)))) : SW K (rSlA K) (.dat (.tuple ds)) lo hi A k := fun R F H v Q a r q => by
  obtain ⟨p, xs, rfl, h1, h2⟩ := sr_tup r
  refine ⟨p, xs, rfl, same_t a.same h1, fun hw => ?_, fun _ n hn => ?_⟩
  · refine q A _ _ F H h (Same.refl F) a (.tup h1 ?_)
    have e : cutD ds lo hi = ds := cut_whole (by rw [← h2.length]; exact hw)
    rw [e]
    exact h2
  · obtain ⟨a2, e2⟩ := a.alloc (o := .tup (cutV xs lo hi)) hn
    exact q A _ _ _ _ h e2 a2 (.tup (SqT.of upd_same) ((cut_dt h2 lo hi).mono e2))
theorem sw_str {z : Str} {lo hi : Option Int} (hz : z.length ≤ sizeLine) (h : k A (.dat (.str (cutS z lo hi)))) : SW K rSlS (.dat (.str z)) lo hi A k := fun R F H v Q a r q => by
  obtain rfl := sr_str r
  exact ⟨z, rfl, hz, q A _ _ F H h (Same.refl F) a (.str _)⟩
/-! ### texts -/
def rAddS : R2 := fun x y H Q => ∃ i j, x = .str i ∧ y = .str j ∧ i.length + j.length ≤ sizeLine ∧ Q (.str (i ++ j)) H
theorem op_addS {X : Cx} : OpR X (binaryOp .Add) rAddS := op_add_str
theorem rw_addS {x y : Str} (hl : x.length + y.length ≤ sizeLine) (h : k A (.dat (.str (x ++ y)))) : RW K rAddS (.dat (.str x)) (.dat (.str y)) A k := fun R F H v w Q a r1 r2 q => by
  obtain rfl := sr_str r1
  obtain rfl := sr_str r2
  exact ⟨x, y, rfl, rfl, hl, q A _ _ F H h (Same.refl F) a (.str _)⟩
def rInC : R2 := fun x y H Q => ∃ (c : Nat) (z : Str), x = .str ⟨#[c]⟩ ∧ y = .str z ∧ Q (.bl (decide (c ∈ z.cps.toList))) H
theorem op_inC {X : Cx} : OpR X (compareOp .In) rInC := op_in_sign
def rNiC : R2 := fun x y H Q => ∃ (c : Nat) (z : Str), x = .str ⟨#[c]⟩ ∧ y = .str z ∧ Q (.bl (!decide (c ∈ z.cps.toList))) H
theorem op_niC {X : Cx} : OpR X (compareOp .NotIn) rNiC := op_notIn_sign
theorem rw_inC {c : Nat} {z : Str} (h : k A (.dat (.bool (decide (c ∈ z.cps.toList))))) : RW K rInC (.dat (.str ⟨#[c]⟩)) (.dat (.str z)) A k := fun R F H v w Q a r1 r2 q => by
  obtain rfl := sr_str r1
  obtain rfl := sr_str r2
  exact ⟨c, z, rfl, rfl, q A _ _ F H h (Same.refl F) a (.bl _)⟩
theorem rw_niC {c : Nat} {z : Str} (h : k A (.dat (.bool (!decide (c ∈ z.cps.toList))))) : RW K rNiC (.dat (.str ⟨#[c]⟩)) (.dat (.str z)) A k := fun R F H v w Q a r1 r2 q => by
  obtain rfl := sr_str r1
  obtain rfl := sr_str r2
  exact ⟨c, z, rfl, rfl, q A _ _ F H h (Same.refl F) a (.bl _)⟩
def rLeS : R2 := fun x y H Q => ∃ i j, x = .str i ∧ y = .str j ∧ Q (.bl (!decide (j.cps.toList < i.cps.toList))) H
theorem op_leS {X : Cx} : OpR X (compareOp .LtE) rLeS := op_le_str
theorem rw_leS {x y : Str} (h : k A (.dat (.bool (!decide (y.cps.toList < x.cps.toList))))) : RW K rLeS (.dat (.str x)) (.dat (.str y)) A k := fun R F H v w Q a r1 r2 q => by
  obtain rfl := sr_str r1
  obtain rfl := sr_str r2
  exact ⟨x, y, rfl, rfl, q A _ _ F H h (Same.refl F) a (.bl _)⟩
abbrev sig1 (c : Nat) : PyData := .str ⟨#[c]⟩
theorem iw_str {k : KS} (h : Wp K A te S fun A1 s => ∃ x : Str, s = .dat (.str x) ∧ k A1 ((x.cps.toList.map sig1).map .dat)) : IW K A (iStr te) S k := fun R F σ H Q a sd q =>
  h R F σ H _ a sd fun A1 s v F1 H1 ⟨x, hs, hk⟩ e1 a1 r1 => by
    subst hs
    obtain rfl := sr_str r1
    refine ⟨x, rfl, q A1 _ F1 H1 _ hk e1 a1 fun A F' H i e at' => ⟨fun hi => ?_, fun s hs => ?_⟩⟩
    · simp only [List.length_map, Array.length_toList] at hi
      exact hi
    · rw [List.map_map, List.getElem?_map, Array.getElem?_toList] at hs
      cases hc : x.cps[i]? with
      | none => rw [hc] at hs; cases hs
      | some c =>
        rw [hc] at hs
        cases hs
        refine ⟨(Array.getElem?_eq_some_iff.mp hc).1, fun z H' y => ?_⟩
        obtain ⟨rfl, c', e1, rfl⟩ := y
        rw [hc] at e1
        cases e1
        exact ⟨F', Same.refl F', at', .str _⟩
/-! ### lists that are owned -/
theorem wp_popAt {ti : TE} (h : Wp K A ta S fun A1 s => ∃ p xs, s = .ptr p ∧ (p, .lst xs) ∈ A1.cells ∧ Wp K A1 ti S fun A2 s2 => ∃ xs l' j x, s2 = .dat (.int (j : Nat)) ∧ j < 1000000 ∧ xs[j]? = some x ∧ Upd A2.cells p (.lst xs) (.lst (xs.eraseIdx j)) l' ∧ k ⟨A2.I, l'⟩ x) :
    Wp K A (tBM K "list" rPopAt ta (tCons ti tNil)) S k := fun R F σ H Q a sd q =>
  h R F σ H _ a sd fun A1 s v F1 H1 ⟨p, xs, hs, hp, hw⟩ e1 a1 r1 => by
    subst hs
    obtain rfl : v = .ref p := r1
    obtain ⟨us, h1, h2⟩ := a1.cell hp
    refine ⟨.inl ⟨rfl, us, .inl (.inl h1)⟩, hw R F1 σ H1 _ a1 (sd.mono e1) fun A2 s2 w F2 H2 ⟨ys, l', j, x, hs2, hj, hx, hu, hk⟩ e2 a2 r2 => ?_⟩
    subst hs2
    obtain rfl := sr_int r2
    obtain ⟨ws, h3, h4⟩ := a2.cell hu.mem
    obtain ⟨y, h5, h6⟩ := pget h4 hx
    have hjl := (List.getElem?_eq_some_iff.mp h5).1
    refine ⟨p, ws, (j : Int), j, y, rfl, rfl, h3, by omega, by omega, ?_, h5, q _ _ _ _ _ hk (e1.trans e2) (a2.put hu ⟨_, upd_same, paired_erase j h4⟩) h6⟩
    unfold seqIndex?
    simp
    omega
/-- xs[i] = v, xs owned -/
theorem go_lput {tv td ti : TE} (h : Wp K A tv S fun A1 s => Wp K A1 td S fun A2 s2 => Wp K A2 ti S fun A3 s3 => ∃ p xs i j l', s2 = .ptr p ∧ s3 = .dat (.int i) ∧ Upd A3.cells p (.lst xs) (.lst (xs.set j s)) l' ∧ ixN xs.length i = some j ∧ E.nx ⟨A3.I, l'⟩ S) :
    Go K A (tAsg tv (gSub td ti rSetL)) S E := fun R F σ H D a sd o =>
  h R F σ H _ a sd fun A1 s v F1 H1 h1 e1 a1 r1 => h1 R F1 σ H1 _ a1 (sd.mono e1) fun A2 s2 w F2 H2 h2 e2 a2 r2 => h2 R F2 σ H2 _ a2 ((sd.mono e1).mono e2) fun A3 s3 u F3 H3 ⟨p, xs, i, j, l', hs, hs2, hu, hj, hk⟩ e3 a3 r3 => by
    subst hs; subst hs2
    obtain rfl : w = .ref p := r2
    obtain rfl := sr_int r3
    obtain ⟨vs, h3, h4⟩ := a3.cell hu.mem
    exact ⟨p, vs, i, j, rfl, rfl, h3, by rw [h4.length]; exact hj, o.nx _ _ _ _ _ hk ((e1.trans e2).trans e3) (a3.put hu ⟨_, upd_same, pset (r1.mono (e2.trans e3)) j h4⟩) (sd.mono ((e1.trans e2).trans e3))⟩
end
end DL

/-! enumerate of tuples. -/
namespace DL
open PySem L2 RZ PyProof.Rows
open Sem (wp)
def IteT (K : PySem.W.Frag) (a : Addr) : It :=
  ⟨fun i H => ∃ (xs : List V) (x : V), SqT K H a xs ∧ xs[i]? = some x, fun i H v H' => ∃ T x, v = .ref T ∧ H T = none ∧ H' = upd H T (.tup [.int (i : Nat), x]) ∧ ∀ xs, SqT K H a xs → xs[i]? = some x, fun i H => ∃ xs : List V, SqT K H a xs ∧ xs.length ≤ i⟩
theorem turn_enumT {P : Program} {w : World} {K : PySem.W.Frag} {elts : List Expr} {kk : Nat} {tpos : Pos} (a e it : Addr) :
    Turn P w K (.Tuple elts kk tpos) (IteT K a) [e, it] e (fun i h => (∃ old, IsEnum h e it ((i : Nat) : Int) old) ∧ h.IsTupleIter it a i ∧ e ≠ it ∧ a ≠ it ∧ a ≠ e) where
  mem := by simp
  obj := fun i h st b hb => by
    obtain ⟨⟨old, he⟩, ⟨o, ho, hc, hd⟩, _⟩ := st
    have e' : b = e ∨ b = it := by simpa using hb
    rcases e' with z | z
    · rw [z]; exact ⟨_, he, fun v q => nomatch q⟩
    · rw [z]; exact ⟨o, ho, fun v q => by rw [hd] at q; cases q⟩
  keep := fun i h h' st k => let ⟨⟨old, he⟩, hi, hne⟩ := st; ⟨⟨old, k e (by simp) _ he⟩, hi.at fun o q => k it (by simp) o q, hne⟩
  item := by
    intro X hP hw hK hc i pins s σ H E I hf st hg
    subst hP hw hK
    obtain ⟨⟨old, he⟩, hit, hne, hai, hae⟩ := st
    obtain ⟨xs, x, hq, hx⟩ := hg
    obtain ⟨its, rv, p, hz⟩ := I.tuple hq
    obtain ⟨u, hu, ru⟩ := rv.get hx
    have hel : e < s.heap.objs.size := Heap.lt_size he
    have hil : it < s.heap.objs.size := by obtain ⟨_, q, _⟩ := hit; exact Heap.lt_size q
    have hlt : i < its.toArray.size := (List.getElem?_eq_some_iff.mp hu).1
    refine wpAny_pyNext_enum_itemD (Draws.tuple (A := X.A.in1) (I.ok.hd hc) it a hai its.toArray) he ⟨hit, show s.heap.IsTuple a its.toArray from p⟩ hlt hne (by simp only [List.mem_cons, List.not_mem_nil, or_false, not_or]; exact ⟨hne, Ne.symm hae⟩) fun y h' tk hy ho hst' hT hsz hk => ?_
    have hy' : u = y := by
      have h1 : its.toArray[i]? = some y := hy
      rw [List.getElem?_toArray, hu] at h1
      exact Option.some.inj h1
    subst hy'
    refine ⟨_, rfl, wpAny_letOwnedTupleGo_enum (s := { s with heap := h', toks := tk + 1 }) ho fun h'' he' sb => ?_⟩
    have hT2 : h''.get? s.heap.objs.size = some { cls := .type "tuple", data := .seq #[.int i tk, u] } := (sb.2 _ (Nat.ne_of_gt hel)).trans hT
    have new : ObjOk X.prog X.w (upd H s.heap.objs.size (.tup [.int (i : Nat), x])) h'' s.heap.objs.size (.tup [.int (i : Nat), x]) :=
      ⟨by show 2 ≤ sizeLine; decide, [.int i tk, u], .cons ⟨_, rfl⟩ (.cons ru .nil), ⟨_, hT2, rfl, _, rfl⟩⟩
    have I1 : Inv X pins σ (upd H s.heap.objs.size (.tup [.int (i : Nat), x])) { s with heap := h'', toks := tk + 1 } :=
      I.turnedNew (ch := [e, it]) (fun b ob hb q => (sb.2 b (fun z => hb (by simp [z]))).trans (hk b ob (fun z => hb (by simp [z])) (fun z => hb (by simp [z])) q)) hf (Nat.le_refl _) new
    refine ⟨.ref s.heap.objs.size, _, I1, rfl, ⟨_, x, rfl, I.hok.fresh (Nat.le_refl _), rfl, fun ys hy => by rw [I.tuple_inj hy hq]; exact hx⟩, ⟨⟨u, ?_⟩, hst'.1.at fun o q => (sb.2 it (Ne.symm hne)).trans q, hne, hai, hae⟩, fun b hb => ?_⟩
    · have e1 : ((i + 1 : Nat) : Int) = (i : Int) + 1 := by omega
      rw [e1]; exact he'
    · have hb' : b < s.heap.objs.size := by
        have e' : b = e ∨ b = it := by simpa using hb
        rcases e' with z | z
        · rw [z]; exact hel
        · rw [z]; exact hil
      rw [upd_ne (Nat.ne_of_lt hb')]
      exact (hf b hb).1
  done := by
    intro X hP hw hK hc i pins s σ H E I hf st hg
    subst hP hw hK
    obtain ⟨⟨old, he⟩, hit, hne, hai, hae⟩ := st
    obtain ⟨xs, hq, hx⟩ := hg
    obtain ⟨its, rv, p, hz⟩ := I.tuple hq
    obtain ⟨f0, f1, f2, f3, f4, f5⟩ := hf it (by simp)
    have hl := rv.length
    unfold pyNext
    have hT : s.TypeIs (.ref e) "enumerate" := ⟨_, he, rfl⟩
    refine wpAny_bind (wpAny_attempt (wpAny_callSpecial?_slot (name := Str.ofString "__next__") hT PySem.F.slot_enumerate_next
      (wpAny_call_entry PySem.F.slot_enumerate_next hT PySem.F.entry_enumerate_next ?_ (PySem.F.args_enumerate_next_1 _))))
    show wpAny _ _ (field (.ref e) 2 >>= _) _ _ _
    refine wpAny_bind (wpAny_field he rfl (x := .ref it) rfl ?_)
    refine wpAny_bind (wpAny_nextOf_tuple_end (I.ok.hd hc) hit (show s.heap.IsTuple a its.toArray from p) (by simp; omega) fun h' x he' hx' => ?_)
    obtain ⟨o, ho, hc⟩ := hx'
    refine wpAny_bind (wpAny_isInstance (T := "StopIteration") (b := true) ⟨o, ho, hc⟩ isSubtype_stop ?_)
    exact wpAny_pure ⟨rfl, I.turned (t' := s.toks) (fun b o hb q => he' b o hb q) f0 f1 f3 f4 f5⟩
  self := fun A i s Q E st h => let ⟨⟨_, he⟩, _⟩ := st; wpAny_pyIter_enum he h
theorem meets_enumB {v : Value} {o : Obj} {H : Heap → Prop} (B : Begins v o H) :
    Meets (Builtin.«enumerate.__new__» ⟨[.type "enumerate", v], []⟩) (fun _ R s => H s.heap ∧
      R (.ok (.ret (.ref (s.heap.push o).objs.size))) { s with heap := (s.heap.push o).push { cls := .type "enumerate", data := .fields #[.none, .bool false, .ref s.heap.objs.size, rawInt 0, .none, .none] } }) :=
  .of_wp fun prog w A R s h => by
    obtain ⟨hp, g, d, tk, os⟩ := s; obtain ⟨h1, h⟩ := h
    have hsub := sub_enumerate
    have q1 : ∀ {A' : Around} {E : Value → Shared → Prop} {Q : Value → Shared → Prop}, Q (.ref hp.objs.size) ⟨hp.push o, g, d, tk, os⟩ → wpAny (model prog w) A' (pyIter v) Q E ⟨hp, g, d, tk, os⟩ :=
      fun q => B.iter prog w _ _ ⟨hp, g, d, tk, os⟩ _ h1 q
    wp_walk
    refine wpAny_stack_any fun st => wpAny_pure ?_
    split
    · rename_i c _ _ _ _ _
      cases (c == Value.type "enumerate")
      · wp_walk using q1
        exact ⟨_, rfl, h⟩
      · wp_walk using q1
        exact ⟨_, rfl, h⟩
    · wp_walk using q1
      exact ⟨_, rfl, h⟩
section
variable {prog : Program} {w : World} {A : Around} {E : Value → Shared → Prop} {s : Shared}
theorem call_enumB {v : Value} {o : Obj} {H : Heap → Prop} {Q : Value → Shared → Prop} (B : Begins v o H) (h1 : H s.heap)
    (h : ∀ h', IsEnum h' (s.heap.objs.size + 1) s.heap.objs.size 0 .none → h'.get? s.heap.objs.size = some o → h'.objs.size = s.heap.objs.size + 2 →
      (∀ b o, s.heap.get? b = some o → h'.get? b = some o) → Q (.ref (s.heap.objs.size + 1)) { s with heap := h' }) :
    wpAny (model prog w) A (call (.type "enumerate") [v]) Q E s := by
  refine callType_new PySem.F.called_enumerate (by decide) (PySem.F.typeCall_enumerate_1 _) (PySem.F.newCall_enumerate_1 _) (fun obj => PySem.F.args_object_init_2 obj _) PySem.F.entry_enumerate_new
    (meets_enumB B) ⟨h1, ?_⟩
  have hz : (s.heap.push o).objs.size = s.heap.objs.size + 1 := Heap.size_push ..
  show _ ∧ _
  rw [hz]
  have he : IsEnum ((s.heap.push o).push { cls := .type "enumerate", data := .fields #[.none, .bool false, .ref s.heap.objs.size, rawInt 0, .none, .none] }) (s.heap.objs.size + 1) s.heap.objs.size 0 .none := by
    have := Heap.get?_push_size (s.heap.push o) (o := { cls := .type "enumerate", data := .fields #[.none, .bool false, .ref s.heap.objs.size, rawInt 0, .none, .none] }) rfl
    rw [hz] at this; exact this
  exact ⟨⟨_, he, rfl⟩, h _ he (Heap.get?_push_of_some _ (Heap.get?_push_size _ B.free)) (by rw [Heap.size_push, hz]) fun b o x => Heap.get?_push_of_some _ (Heap.get?_push_of_some _ x)⟩
end
def iEnumT (K : PySem.W.Frag) (ta : TA) : TI := fun σ H R => ta σ H fun vs H1 => ∃ a xs, vs = [.ref a] ∧ SqT K H1 a xs ∧ R (IteT K a) H1
theorem pi_enumT {X : Cx} {e : Expr} {ta : TA} {p pos tpos : Pos} {elts : List Expr} {kk : Nat} (hg : Gl X "enumerate") (hm : X.mg "enumerate" = none) (ha : PA X [e] ta) (hs : starEach [e] X.env = [(false, eval e X.env)] := by rfl) :
    PI X (.Tuple elts kk tpos) (.Call (.Name "enumerate" p) [e] [] pos) (iEnumT X.K ta) := by
  refine ⟨fun pins s σ H R I h => ?_⟩
  refine Call_ (ld_blt I hg hm boot_enumerate (PyProof.Rows.callWith_type1 (thn (ha.run pos pins s σ H _ I h) fun us s1 ⟨vs, H1, I1, r1, q1⟩ => ?_) hs rfl))
  obtain ⟨a, xs, ex, hq, q⟩ := q1
  subst ex
  cases r1 with
  | cons r rr =>
    cases rr
    cases r
    obtain ⟨its, rv, p', hz⟩ := I1.tuple hq
    have hal : a < s1.heap.objs.size := by obtain ⟨_, x, _⟩ := p'; exact Heap.lt_size x
    refine call_enumB (begins_tuple a its.toArray) p' fun h' he hit hsz hk => wpAny_pyIter_enum he ?_
    have I2 : Inv X pins σ H1 { s1 with heap := h' } := I1.kept (t' := s1.toks) hk
    refine ⟨s1.heap.objs.size + 1, [s1.heap.objs.size + 1, s1.heap.objs.size], _, _, H1, rfl, I2, turn_enumT a (s1.heap.objs.size + 1) s1.heap.objs.size, ⟨⟨.none, he⟩, ⟨_, hit, rfl, rfl⟩, Nat.succ_ne_self _, Nat.ne_of_lt hal, Nat.ne_of_lt (Nat.lt_succ_of_lt hal)⟩, fun b hb => ?_, q⟩
    have e' : b = s1.heap.objs.size + 1 ∨ b = s1.heap.objs.size := by simpa using hb
    have hle : s1.heap.objs.size ≤ b := by
      rcases e' with z | z
      · rw [z]; exact Nat.le_add_right _ _
      · rw [z]; exact Nat.le_refl _
    exact I1.fpOk hle (I1.hok.fresh hle)
/-! ### what they walk, by data -/
def enumD (ds : List PyData) : List PyData := ds.zipIdx.map fun p => .tuple [.int (p.2 : Nat), p.1]
theorem enumD_get {ds : List PyData} {i : Nat} {s : SV} (h : ((enumD ds).map SV.dat)[i]? = some s) : ∃ d, ds[i]? = some d ∧ s = .dat (.tuple [.int (i : Nat), d]) := by
  unfold enumD at h
  rw [List.map_map, List.getElem?_map, List.getElem?_zipIdx] at h
  cases e : ds[i]? with
  | none => rw [e] at h; cases h
  | some d =>
    rw [e] at h
    simp at h
    exact ⟨d, rfl, h.symm⟩
theorem enumD_length (ds : List PyData) : (enumD ds).length = ds.length := by simp [enumD]
section
variable {K : PySem.W.Frag} {A : Amb} {S : List SV} {ta : TA} {k : KS}
theorem pair_new {A' : Amb} {F F' H : Hp} {T : Addr} {x : V} {i : Nat} {d : PyData} (hT : H T = none) (at' : At K A' F' H) (hd : Dt K F' x d) : ∃ F'', Same F' F'' ∧ At K A' F'' (upd H T (.tup [.int (i : Nat), x])) ∧ SR K F'' (.ref T) (.dat (.tuple [.int (i : Nat), d])) := by
  obtain ⟨a2, e2⟩ := at'.alloc (o := .tup [.int (i : Nat), x]) hT
  exact ⟨_, e2, a2, .tup (SqT.of upd_same) (.cons (.int _) (.cons (hd.mono e2) .nil))⟩
theorem iw_enum (h : WpA K A ta S fun A1 ss => ∃ ds, ss = [.dat (.list ds)] ∧ k A1 ((enumD ds).map .dat)) : IW K A (iEnum K ta) S k := fun R F σ H Q a sd q =>
  h R F σ H _ a sd fun A1 ss vs F1 H1 ⟨ds, hs, hk⟩ e1 a1 r1 => by
    subst hs
    obtain ⟨v, rfl, r2⟩ := one_of r1
    obtain ⟨p, xs, rfl, h1, h2⟩ := sr_lst r2
    refine ⟨p, xs, rfl, .inl (.inl (a1.same _ _ h1)), q A1 _ F1 H1 _ hk e1 a1 fun A' F' H' i e at' => ?_⟩
    have hH : SqL K H' p xs := .inl (.inl ((e.trans at'.same) _ _ h1))
    refine ⟨fun hi => ⟨xs, hH, ?_⟩, fun s hs => ?_⟩
    · rw [List.length_map, enumD_length] at hi
      rw [h2.length]
      exact hi
    · obtain ⟨d, hd, rfl⟩ := enumD_get hs
      obtain ⟨x, hx, hdx⟩ := h2.getD hd
      refine ⟨⟨xs, x, hH, hx⟩, fun z H'' y => ?_⟩
      obtain ⟨T, x', rfl, hT, rfl, y⟩ := y
      have q1 := y xs hH
      rw [hx] at q1
      cases q1
      exact pair_new (F := F1) hT at' (hdx.mono e)
theorem iw_enumT (h : WpA K A ta S fun A1 ss => ∃ ds, ss = [.dat (.tuple ds)] ∧ k A1 ((enumD ds).map .dat)) : IW K A (iEnumT K ta) S k := fun R F σ H Q a sd q =>
  h R F σ H _ a sd fun A1 ss vs F1 H1 ⟨ds, hs, hk⟩ e1 a1 r1 => by
    subst hs
    obtain ⟨v, rfl, r2⟩ := one_of r1
    obtain ⟨p, xs, rfl, h1, h2⟩ := sr_tup r2
    refine ⟨p, xs, rfl, same_t a1.same h1, q A1 _ F1 H1 _ hk e1 a1 fun A' F' H' i e at' => ?_⟩
    have hH : SqT K H' p xs := same_t (e.trans at'.same) h1
    refine ⟨fun hi => ⟨xs, hH, ?_⟩, fun s hs => ?_⟩
    · rw [List.length_map, enumD_length] at hi
      rw [h2.length]
      exact hi
    · obtain ⟨d, hd, rfl⟩ := enumD_get hs
      obtain ⟨x, hx, hdx⟩ := h2.getD hd
      refine ⟨⟨xs, x, hH, hx⟩, fun z H'' y => ?_⟩
      obtain ⟨T, x', rfl, hT, rfl, y⟩ := y
      have q1 := y xs hH
      rw [hx] at q1
      cases q1
      exact pair_new (F := F1) hT at' (hdx.mono e)
/-- zip, by data -/
def zipD (ds es : List PyData) : List PyData := (ds.zip es).map fun p => .tuple [p.1, p.2]
theorem zipD_length (ds es : List PyData) : (zipD ds es).length = min ds.length es.length := by simp [zipD]
theorem zipD_get {ds es : List PyData} {i : Nat} {s : SV} (h : ((zipD ds es).map SV.dat)[i]? = some s) : ∃ d e, ds[i]? = some d ∧ es[i]? = some e ∧ s = .dat (.tuple [d, e]) := by
  unfold zipD at h
  rw [List.map_map, List.getElem?_map] at h
  cases z : (ds.zip es)[i]? with
  | none => rw [z] at h; cases h
  | some p =>
    rw [z] at h
    obtain ⟨h1, h2⟩ := List.getElem?_zip_eq_some.mp z
    exact ⟨p.1, p.2, h1, h2, by simpa using h.symm⟩
theorem pair2_new {A' : Amb} {F' H : Hp} {T : Addr} {x y : V} {d e : PyData} (hT : H T = none) (at' : At K A' F' H) (hd : Dt K F' x d) (he : Dt K F' y e) : ∃ F'', Same F' F'' ∧ At K A' F'' (upd H T (.tup [x, y])) ∧ SR K F'' (.ref T) (.dat (.tuple [d, e])) := by
  obtain ⟨a2, e2⟩ := at'.alloc (o := .tup [x, y]) hT
  exact ⟨_, e2, a2, .tup (SqT.of upd_same) (.cons (hd.mono e2) (.cons (he.mono e2) .nil))⟩
theorem iw_zipL (h : WpA K A ta S fun A1 ss => ∃ ds es, ss = [.dat (.list ds), .dat (.list es)] ∧ k A1 ((zipD ds es).map .dat)) : IW K A (iZipA K ta) S k := fun R F σ H Q a sd q =>
  h R F σ H _ a sd fun A1 ss vs F1 H1 ⟨ds, es, hs, hk⟩ e1 a1 r1 => by
    subst hs
    obtain ⟨v, w, rfl, r2, r3⟩ := two_of r1
    obtain ⟨p, xs, rfl, h1, h2⟩ := sr_lst r2
    obtain ⟨p2, ys, rfl, h3, h4⟩ := sr_lst r3
    refine ⟨p, p2, xs, ys, rfl, .inl ⟨.inl (.inl (a1.same _ _ h1)), .inl (.inl (a1.same _ _ h3)), q A1 _ F1 H1 _ hk e1 a1 fun A' F' H' i e at' => ?_⟩⟩
    have hH : SqL K H' p xs := .inl (.inl ((e.trans at'.same) _ _ h1))
    have hH2 : SqL K H' p2 ys := .inl (.inl ((e.trans at'.same) _ _ h3))
    refine ⟨fun hi => ⟨xs, ys, hH, hH2, ?_⟩, fun s hs => ?_⟩
    · rw [List.length_map, zipD_length] at hi
      rw [h2.length, h4.length]
      omega
    · obtain ⟨d, e', hd, he, rfl⟩ := zipD_get hs
      obtain ⟨x, hx, hdx⟩ := h2.getD hd
      obtain ⟨y, hy, hdy⟩ := h4.getD he
      refine ⟨⟨xs, ys, x, y, hH, hH2, hx, hy⟩, fun z H'' w => ?_⟩
      obtain ⟨T, x', y', rfl, hT, rfl, w1, w2⟩ := w
      have q1 := w1 xs hH
      have q2 := w2 ys hH2
      rw [hx] at q1
      rw [hy] at q2
      cases q1
      cases q2
      exact pair2_new hT at' (hdx.mono e) (hdy.mono e)
theorem iw_zipT (h : WpA K A ta S fun A1 ss => ∃ ds es, ss = [.dat (.tuple ds), .dat (.tuple es)] ∧ k A1 ((zipD ds es).map .dat)) : IW K A (iZipA K ta) S k := fun R F σ H Q a sd q =>
  h R F σ H _ a sd fun A1 ss vs F1 H1 ⟨ds, es, hs, hk⟩ e1 a1 r1 => by
    subst hs
    obtain ⟨v, w, rfl, r2, r3⟩ := two_of r1
    obtain ⟨p, xs, rfl, h1, h2⟩ := sr_tup r2
    obtain ⟨p2, ys, rfl, h3, h4⟩ := sr_tup r3
    refine ⟨p, p2, xs, ys, rfl, .inr ⟨same_t a1.same h1, same_t a1.same h3, q A1 _ F1 H1 _ hk e1 a1 fun A' F' H' i e at' => ?_⟩⟩
    have hH : SqT K H' p xs := same_t (e.trans at'.same) h1
    have hH2 : SqT K H' p2 ys := same_t (e.trans at'.same) h3
    refine ⟨fun hi => ⟨xs, ys, hH, hH2, ?_⟩, fun s hs => ?_⟩
    · rw [List.length_map, zipD_length] at hi
      rw [h2.length, h4.length]
      omega
    · obtain ⟨d, e', hd, he, rfl⟩ := zipD_get hs
      obtain ⟨x, hx, hdx⟩ := h2.getD hd
      obtain ⟨y, hy, hdy⟩ := h4.getD he
      refine ⟨⟨xs, ys, x, y, hH, hH2, hx, hy⟩, fun z H'' w => ?_⟩
      obtain ⟨T, x', y', rfl, hT, rfl, w1, w2⟩ := w
      have q1 := w1 xs hH
      have q2 := w2 ys hH2
      rw [hx] at q1
      rw [hy] at q2
      cases q1
      cases q2
      exact pair2_new hT at' (hdx.mono e) (hdy.mono e)
end
theorem pi_enumK (K : PySem.W.Frag) {X : Cx} {e : Expr} {ta : TA} {p pos tpos : Pos} {elts : List Expr} {kk : Nat} (hg : Gl X "enumerate") (hm : X.mg "enumerate" = none) (ha : PA X [e] ta) (hs : starEach [e] X.env = [(false, eval e X.env)] := by rfl) (h : X.K = K := by rfl) :
    PI X (.Tuple elts kk tpos) (.Call (.Name "enumerate" p) [e] [] pos) (iEnum K ta) := h ▸ pi_enum hg hm ha hs
theorem pi_enumTK (K : PySem.W.Frag) {X : Cx} {e : Expr} {ta : TA} {p pos tpos : Pos} {elts : List Expr} {kk : Nat} (hg : Gl X "enumerate") (hm : X.mg "enumerate" = none) (ha : PA X [e] ta) (hs : starEach [e] X.env = [(false, eval e X.env)] := by rfl) (h : X.K = K := by rfl) :
    PI X (.Tuple elts kk tpos) (.Call (.Name "enumerate" p) [e] [] pos) (iEnumT K ta) := h ▸ pi_enumT hg hm ha hs
theorem pi_zipK (K : PySem.W.Frag) {X : Cx} {e e2 : Expr} {ta : TA} {p pos tpos : Pos} {elts : List Expr} {kk : Nat} (hg : Gl X "zip") (hm : X.mg "zip" = none) (ha : PA X [e, e2] ta)
    (hs : starEach [e, e2] X.env = (false, eval e X.env) :: starEach [e2] X.env := by rfl) (hpl : (backTo pos (starEach [e2] X.env)).any (·.1) = false := by rfl) (h : X.K = K := by rfl) :
    PI X (.Tuple elts kk tpos) (.Call (.Name "zip" p) [e, e2] [] pos) (iZipA K ta) := h ▸ pi_zipA hg hm ha hs hpl
end DL

/-! Joined texts, all and any, tuples put together, dicts made of pairs, isinstance of two classes. -/
namespace DL
open PySem L2 RZ
section
variable {K : PySem.W.Frag} {A A' : Amb} {S S' : List SV} {k k' : KA} {ta tb te to : TE} {s s1 s2 : SV} {E : DE}
/-! ### texts -/
def rJoin (K : PySem.W.Frag) : V → List V → Hp → VK → Prop := fun x xs H Q => ∃ a p, ∃ ys : List Str, x = .str a ∧ xs = [.ref p] ∧ (SqL K H p (ys.map V.str) ∨ SqT K H p (ys.map V.str)) ∧
    (ys.map (·.length)).sum + ys.length * a.length ≤ 16777216 ∧ Q (.str (Txt.join a ys)) H
theorem mt_joinK (K : PySem.W.Frag) {X : Cx} (h : X.K = K := by rfl) : MtR X "str.join" (rJoin K) := h ▸ mt_join
theorem dt_strs {F : Hp} : ∀ {xs : List V} {ys : List Str}, DtAll K F xs (ys.map PyData.str) → xs = ys.map V.str
  | _, [], .nil => rfl
  | _, y :: ys, .cons h t => by
    cases h
    rw [List.map_cons, dt_strs t]
theorem wp_join1 (h : Wp K A to S fun A1 s => ∃ a, s = .dat (.str a) ∧ Wp K A1 te S fun A2 s2 => ∃ ys : List Str, s2 = .dat (.list (ys.map .str)) ∧ (ys.map (·.length)).sum + ys.length * a.length ≤ 16777216 ∧ k A2 (.dat (.str (Txt.join a ys)))) :
    Wp K A (tBM K "str" (rJoin K) to (tCons te tNil)) S k := fun R F σ H Q a sd q =>
  h R F σ H _ a sd fun A1 s v F1 H1 ⟨z, hs, h1⟩ e1 a1 r1 => by
    subst hs
    obtain rfl := sr_str r1
    refine ⟨rfl, h1 R F1 σ H1 _ a1 (sd.mono e1) fun A2 s2 w F2 H2 ⟨ys, hs2, hz, hk⟩ e2 a2 r2 => ?_⟩
    subst hs2
    obtain ⟨p, xs, rfl, f1, f2⟩ := sr_lst r2
    obtain rfl := dt_strs f2
    exact ⟨z, p, ys, rfl, rfl, .inl (.inl (.inl (a2.same _ _ f1))), hz, q A2 _ _ F2 H2 hk (e1.trans e2) a2 (.str _)⟩
/-! ### all, any -/
theorem cr_allK (K : PySem.W.Frag) {X : Cx} (hc : X.calm = true) (h : X.K = K := by rfl) : CallR X (.builtin "all") (rAll K) := h ▸ cr_all hc
theorem cr_anyK (K : PySem.W.Frag) {X : Cx} (hc : X.calm = true) (h : X.K = K := by rfl) : CallR X (.builtin "any") (rAny K) := h ▸ cr_any hc
theorem dt_bools {F : Hp} : ∀ {xs : List V} {bs : List Bool}, DtAll K F xs (bs.map PyData.bool) → xs = bs.map V.bl
  | _, [], .nil => rfl
  | _, b :: bs, .cons h t => by
    cases h
    rw [List.map_cons, dt_bools t]
theorem cw_all {bs : List Bool} (h : k A (.dat (.bool (bs.all id)))) : CW K (rAll K) [.dat (.list (bs.map .bool))] A k := fun R F H vs Q a r q => by
  obtain ⟨v, rfl, r1⟩ := one_of r
  obtain ⟨p, xs, rfl, f1, f2⟩ := sr_lst r1
  obtain rfl := dt_bools f2
  exact ⟨p, bs, rfl, .inl (.inl (a.same _ _ f1)), q A _ _ F H h (Same.refl F) a (.bl _)⟩
theorem cw_any {bs : List Bool} (h : k A (.dat (.bool (bs.any id)))) : CW K (rAny K) [.dat (.list (bs.map .bool))] A k := fun R F H vs Q a r q => by
  obtain ⟨v, rfl, r1⟩ := one_of r
  obtain ⟨p, xs, rfl, f1, f2⟩ := sr_lst r1
  obtain rfl := dt_bools f2
  exact ⟨p, bs, rfl, .inl (.inl (a.same _ _ f1)), q A _ _ F H h (Same.refl F) a (.bl _)⟩
/-! ### tuples put together -/
theorem op_catK (K : PySem.W.Frag) {X : Cx} (h : X.K = K := by rfl) : OpR X (binaryOp .Add) (rCatA K) := h ▸ op_catA
theorem rw_catT {ds es : List PyData} (hl : ds.length + es.length ≤ sizeLine) (h : k A (.dat (.tuple (ds ++ es)))) : RW K (rCatA K) (.dat (.tuple ds)) (.dat (.tuple es)) A k := fun R F H v w Q a r1 r2 q => by
  obtain ⟨p, xs, rfl, h1, h2⟩ := sr_tup r1
  obtain ⟨p', ys, rfl, h3, h4⟩ := sr_tup r2
  refine ⟨p, p', xs, ys, rfl, rfl, same_t a.same h1, same_t a.same h3, by rw [h2.length, h4.length]; exact hl, fun hx => ?_, fun _ hy => ?_, fun _ _ n hn => ?_⟩
  · subst hx
    cases h2
    exact q A _ _ F H h (Same.refl F) a r2
  · subst hy
    cases h4
    rw [List.append_nil] at h
    exact q A _ _ F H h (Same.refl F) a r1
  · obtain ⟨a2, e2⟩ := a.alloc (o := .tup (xs ++ ys)) hn
    exact q A _ _ _ _ h e2 a2 (.tup (SqT.of upd_same) ((h2.append h4).mono e2))
/-! ### dicts: their keys as a list, a dict of pairs, two compared -/
theorem call_keysL {X : Cx} (hc : X.calm = true) : CallR X (.type "list") rListD := call_list_dK hc
theorem kvr_keys {κ : Type} {F : Hp} : ∀ {vs : List (κ × V)} {kvs : List (κ × SV)}, KVR K F vs kvs → vs.map (·.1) = kvs.map (·.1)
  | _, _, .nil => rfl
  | _, _, .cons r t => by rw [List.map_cons, List.map_cons, kvr_keys t, r.1]
theorem keys_dt (F : Hp) : ∀ ks : List Key, DtAll K F (ks.map kV) (ks.map keyD)
  | [] => .nil
  | .inl i :: ks => .cons (.int i) (keys_dt F ks)
  | .inr x :: ks => .cons (.str x) (keys_dt F ks)
theorem cw_keysL {p : Addr} {kvs : List (Key × SV)} (hp : (p, .dk kvs) ∈ A.cells) (h : k A (.dat (.list (kvs.map fun kv => keyD kv.1)))) : CW K rListD [.ptr p] A k := fun R F H vs Q a r q => by
  obtain ⟨v, rfl, r1⟩ := one_of r
  obtain rfl : v = .ref p := r1
  obtain ⟨_, _, us, h1, h2⟩ := At.cell a p (.dk kvs) (List.mem_append_left _ hp)
  refine ⟨p, us, rfl, h1, fun l hl => ?_⟩
  have ek := kvr_keys h2
  have e1 : (us.map fun kv => kV kv.1) = (kvs.map (·.1)).map kV := by rw [← ek, List.map_map]; rfl
  have e2 : (kvs.map fun kv => keyD kv.1) = (kvs.map (·.1)).map keyD := by rw [List.map_map]; rfl
  rw [e2] at h
  rw [e1]
  obtain ⟨a2, e3⟩ := a.alloc (o := .lst ((kvs.map (·.1)).map kV)) hl
  exact q A _ _ _ _ h e3 a2 (.lst upd_same (keys_dt _ _))
def rDictP (K : PySem.W.Frag) : List V → Hp → VK → Prop := fun xs H Q => ∃ (a : Addr) (ps : List Addr) (kvs : List (Key × V)), xs = [.ref a] ∧ SqL K H a (ps.map V.ref) ∧ Paired (fun p kv => SqT K H p [kV kv.1, kv.2]) ps kvs ∧
    ∀ p, H p = none → Q (.ref p) (upd H p (.dK (mergeK [] kvs)))
theorem call_dictPK (K : PySem.W.Frag) {X : Cx} (hc : X.calm = true) (h : X.K = K := by rfl) : CallR X (.type "dict") (rDictP K) := h ▸ call_dictP hc
theorem pairs_dt {F : Hp} : ∀ {xs : List V} {prs : List (Key × PyData)}, DtAll K F xs (prs.map fun q => .tuple [keyD q.1, q.2]) → ∃ (ps : List Addr) (kvs : List (Key × V)), xs = ps.map V.ref ∧ Paired (fun p kv => SqT K F p [kV kv.1, kv.2]) ps kvs ∧ KVR K F kvs (prs.map fun q => (q.1, SV.dat q.2))
  | _, [], .nil => ⟨[], [], rfl, .nil, .nil⟩
  | _, pr :: prs, .cons h t => by
    obtain ⟨ps, kvs, rfl, h1, h2⟩ := pairs_dt t
    cases h with
    | tup hq hd =>
      cases hd with
      | cons d1 d2 =>
        cases d2 with
        | cons d3 d4 =>
          cases d4
          have e := keyD_v (F := F) (x := pr.1) d1
          subst e
          exact ⟨_ :: ps, (pr.1, _) :: kvs, rfl, .cons hq h1, .cons ⟨rfl, d3⟩ h2⟩
theorem cw_dictP {prs : List (Key × PyData)} (h : ∀ p, k (A.add p (.dk (mergeS [] (prs.map fun q => (q.1, SV.dat q.2))))) (.ptr p)) : CW K (rDictP K) [.dat (.list (prs.map fun q => .tuple [keyD q.1, q.2]))] A k := fun R F H vs Q a r q => by
  obtain ⟨v, rfl, r1⟩ := one_of r
  obtain ⟨p, xs, rfl, f1, f2⟩ := sr_lst r1
  obtain ⟨ps, kvs, rfl, g1, g2⟩ := pairs_dt f2
  refine ⟨p, ps, kvs, rfl, .inl (.inl (a.same _ _ f1)), Paired.mono (fun _ _ q => same_t a.same q) g1, fun l hl => ?_⟩
  exact q _ _ _ _ _ (h l) (Same.refl F) (a.new (o := .dK (mergeK [] kvs)) (c := .dk _) hl ⟨_, upd_same, kvr_merge g2 .nil⟩) rfl
def flatD : PyData → Bool
  | .none | .bool _ | .int _ | .str _ => true
  | _ => false
theorem flat_dt {F : Hp} {v w : V} {d : PyData} (h1 : Dt K F v d) (h2 : Dt K F w d) (hf : flatD d = true) : v = w ∧ flatB v = true := by
  cases h1 <;> first | (cases h2; exact ⟨rfl, rfl⟩) | cases hf
theorem rw_neDA {p p2 : Addr} {ks ls : List (Key × PyData)} (hp : (p, .dk (ks.map fun q => (q.1, .dat q.2))) ∈ A.cells) (hp2 : (p2, .dk (ls.map fun q => (q.1, .dat q.2))) ∈ A.cells) (hlen : ks.length = ls.length) (hs : ∀ q ∈ ks, lookS (ls.map fun q => (q.1, SV.dat q.2)) q.1 = some (.dat q.2) ∧ flatD q.2 = true) (h : k A (.dat (.bool false))) : RW K rNeDA (.ptr p) (.ptr p2) A k := fun R F H v w Q a r1 r2 q => by
  obtain rfl : v = .ref p := r1
  obtain rfl : w = .ref p2 := r2
  obtain ⟨_, _, us, h1, h2⟩ := At.cell a p _ (List.mem_append_left _ hp)
  obtain ⟨_, _, ws, h3, h4⟩ := At.cell a p2 _ (List.mem_append_left _ hp2)
  have l1 := Paired.length h2
  have l2 := Paired.length h4
  rw [List.length_map] at l1 l2
  refine ⟨p, p2, us, ws, rfl, rfl, h1, h3, by omega, fun x hx => ?_, q A _ _ F H h (Same.refl F) a (.bl _)⟩
  obtain ⟨i, hi⟩ := List.getElem?_of_mem hx
  obtain ⟨b, hb, hk, hd⟩ := pgetL h2 hi
  rw [List.getElem?_map] at hb
  cases e : ks[i]? with
  | none => rw [e] at hb; cases hb
  | some z =>
    rw [e] at hb
    cases hb
    obtain ⟨g1, g2⟩ := hs z (List.mem_of_getElem? e)
    obtain ⟨y, g3, g4⟩ := (kvr_look h4).1 _ g1
    obtain ⟨e1, e2⟩ := flat_dt (F := F) hd g4 g2
    have hk : x.1 = z.1 := hk
    rw [hk]
    exact ⟨by rw [g3, e1], e2⟩
end
end DL

/-! Own classes: instances are cells; isinstance of two built-in classes; slices with a step. -/
namespace DL
open PySem L2 RZ PyProof.Rows
def putFS (f : Str) (v : SV) : List (Str × SV) → List (Str × SV)
  | [] => [(f, v)]
  | (g, x) :: r => if g = f then (g, v) :: r else (g, x) :: putFS f v r
section
variable {K : PySem.W.Frag} {A A' : Amb} {S S' : List SV} {k k' : KA} {ta : TA} {to tv te : TE} {s s1 s2 : SV} {E : DE} {C : Addr} {m f : Str} {W : List SV → Amb → KA → Prop} {EX : XK}
theorem kvr_putF {F : Hp} {f : Str} {v : V} {s : SV} (r : SR K F v s) : ∀ {vs : List (Str × V)} {fs : List (Str × SV)}, KVR K F vs fs → KVR K F (putF f v vs) (putFS f s fs)
  | _, _, .nil => .cons ⟨rfl, r⟩ .nil
  | (g, x) :: vs, (g', y) :: fs, .cons h t => by
    obtain ⟨h1, h2⟩ := h
    have h1 : g = g' := h1
    subst h1
    unfold putF putFS
    split
    · exact .cons ⟨rfl, r⟩ t
    · exact .cons ⟨rfl, h2⟩ (kvr_putF r t)
theorem kvr_lookup {F : Hp} {f : Str} : ∀ {vs : List (Str × V)} {fs : List (Str × SV)}, KVR K F vs fs → (∀ s, fs.lookup f = some s → ∃ v, vs.lookup f = some v ∧ SR K F v s) ∧ (fs.lookup f = none → vs.lookup f = none)
  | _, _, .nil => ⟨fun s h => (by cases h), fun _ => rfl⟩
  | (g, x) :: vs, (g', y) :: fs, .cons h t => by
    obtain ⟨h1, h2⟩ := h
    have h1 : g = g' := h1
    subst h1
    have h2 : SR K F x y := h2
    obtain ⟨i1, i2⟩ := kvr_lookup (f := f) t
    cases e : f == g with
    | true =>
      simp only [List.lookup_cons, e]
      exact ⟨fun s z => by cases z; exact ⟨x, rfl, h2⟩, fun z => by cases z⟩
    | false =>
      simp only [List.lookup_cons, e]
      exact ⟨i1, i2⟩
theorem wp_fld (h : Wp K A to S fun A1 s => ∃ p C dx fs v, s = .ptr p ∧ (p, .ins C dx fs) ∈ A1.cells ∧ Cls K C ∧ NoAttr K C f ∧ fs.lookup f = some v ∧ k A1 v) : Wp K A (tFld K to f) S k := fun R F σ H Q a sd q =>
  h R F σ H _ a sd fun A1 s v F1 H1 ⟨p, C, dx, fs, u, hs, hp, hc, hn, hl, hk⟩ e1 a1 r1 => by
    subst hs
    obtain rfl : v = .ref p := r1
    obtain ⟨_, _, vs, h1, h2⟩ := At.cell a1 p _ (List.mem_append_left _ hp)
    obtain ⟨y, h3, h4⟩ := (kvr_lookup h2).1 _ hl
    exact ⟨p, C, dx, vs, y, rfl, h1, hc, hn, h3, q A1 _ _ F1 H1 hk e1 a1 h4⟩
theorem go_fld (h : Wp K A tv S fun A1 s => Wp K A1 to S fun A2 s2 => ∃ p C dx fs l', s2 = .ptr p ∧ Cls K C ∧ NoAttr K C f ∧ fs.length < 1000 ∧ Upd A2.cells p (.ins C dx fs) (.ins C dx (putFS f s fs)) l' ∧ E.nx ⟨A2.I, l'⟩ S) : Go K A (sFld K to tv f) S E := fun R F σ H D a sd o =>
  h R F σ H _ a sd fun A1 s v F1 H1 h1 e1 a1 r1 => h1 R F1 σ H1 _ a1 (sd.mono e1) fun A2 s2 w F2 H2 ⟨p, C, dx, fs, l', hs, hc, hn, hl, hu, hk⟩ e2 a2 r2 => by
    subst hs
    obtain rfl : w = .ref p := r2
    obtain ⟨_, _, vs, h3, h4⟩ := At.cell a2 p _ (List.mem_append_left _ hu.mem)
    refine ⟨p, C, dx, vs, rfl, h3, hc, hn, by rw [Paired.length h4]; exact hl, ?_⟩
    exact o.nx _ _ _ _ _ hk (e1.trans e2) (At.put (A := ⟨A2.I, A2.cells ++ R⟩) a2 hu.app ⟨_, upd_same, kvr_putF (r1.mono e2) h4⟩) (sd.mono (e1.trans e2))
theorem wp_meth (h : Wp K A to S fun A1 s => ∃ p dx fs, s = .ptr p ∧ (p, .ins C dx fs) ∈ A1.cells ∧ fs.lookup m = none ∧ WpA K A1 ta S fun A2 ss => W (.ptr p :: ss) A2 k) : Wp K A (tMeth C m (spW K W) [] EX to ta) S k := fun R F σ H Q a sd q =>
  h R F σ H _ a sd fun A1 s v F1 H1 ⟨p, dx, fs, hs, hp, hl, hw⟩ e1 a1 r1 => by
    subst hs
    obtain rfl : v = .ref p := r1
    obtain ⟨_, _, vs, h1, h2⟩ := At.cell a1 p _ (List.mem_append_left _ hp)
    refine ⟨p, dx, vs, rfl, h1, (kvr_lookup h2).2 hl, hw R F1 σ H1 _ a1 (sd.mono e1) fun A2 ss us F2 H2 h3 e2 a2 r2 => ?_⟩
    show spW K W (.ref p :: (us ++ [])) H2 Q EX
    rw [List.append_nil]
    exact ⟨A2, R, F2, _, k, a2, .cons (show SR K F2 (.ref p) (.ptr p) from rfl) r2, h3, q.mono (e1.trans e2)⟩
theorem wp_make (h : WpA K A ta S fun A1 ss => ∀ x dx, W (.ptr x :: ss) (A1.add x (.ins C dx [])) (fun A2 s => s = .dat .none ∧ k A2 (.ptr x))) : Wp K A (tMake C (spW K W) [] EX ta) S k := fun R F σ H Q a sd q =>
  h R F σ H _ a sd fun A1 ss vs F1 H1 h1 e1 a1 r1 x dx hx hdx hne => by
    show spW K W (.ref x :: (vs ++ [])) _ _ EX
    rw [List.append_nil]
    obtain ⟨a2, e2⟩ := a1.alloc (o := .own x) hdx
    have hx2 : (upd H1 dx (.own x)) x = none := by rw [upd_ne (Ne.symm hne)]; exact hx
    have a3 := AtR.new (o := .ins C dx []) (c := .ins C dx []) a2 hx2 ⟨[], upd_same, .nil⟩
    refine ⟨_, R, _, _, _, a3, .cons (show SR K _ (.ref x) (.ptr x) from rfl) (r1.mono e2), h1 x dx, fun A2 s v F2 H2 hk e3 a4 r4 => ?_⟩
    obtain ⟨rfl, hk⟩ := hk
    have r5 : Dt K F2 v .none := r4
    cases r5
    exact ⟨rfl, q A2 _ _ F2 H2 hk ((e1.trans e2).trans e3) a4 rfl⟩
/-! ### isinstance(x, (a, b)) -/
def tyD : PyData → String
  | .none => "NoneType"
  | .bool _ => "bool"
  | .int _ => "int"
  | .str _ => "str"
  | .list _ => "list"
  | .tuple _ => "tuple"
  | .dict _ => "dict"
theorem tyx_dt {F : Hp} {v : V} {d : PyData} (h : Dt K F v d) : TyX K F v (.type (tyD d)) := by
  cases h with
  | non => exact .base .non
  | bl b => exact .base (.bl b)
  | int i => exact .base (.int i)
  | str x => exact .base (.str x)
  | lst h1 _ => exact .base (.lst h1)
  | tup h1 _ =>
    rcases h1 with (h1 | ⟨o, h1⟩) | ⟨o, its, n, h1, h2, _⟩
    · exact .base (.tup h1)
    · exact .fTuple h1
    · exact .kTuple h1 h2
  | dct h1 _ _ => exact .base (.dK h1)
theorem TyX.monoS {F H : Hp} (e : Same F H) {v : V} {d : PyData} (h : Dt K F v d) : TyX K H v (.type (tyD d)) := tyx_dt (h.mono e)
theorem call_isiTK (K : PySem.W.Frag) {X : Cx} (h : X.K = K := by rfl) : CallR X (.builtin "isinstance") (rIsiT K) := h ▸ call_isiT
theorem isK_ty {T : String} (hT : T = "list" ∨ T = "tuple") (d : PyData) : PySem.W.kitOne K (.type (tyD d)) (.type T) = some (isK T d) := by
  rcases hT with rfl | rfl
  · cases d with
    | none => exact kit_ty (a := "NoneType") (b := "list") (r := false) (by decide +kernel)
    | bool b => exact kit_ty (a := "bool") (b := "list") (r := false) (by decide +kernel)
    | int i => exact kit_ty (a := "int") (b := "list") (r := false) (by decide +kernel)
    | str x => exact kit_ty (a := "str") (b := "list") (r := false) (by decide +kernel)
    | list xs => exact kit_ty (a := "list") (b := "list") (r := true) (by decide +kernel)
    | tuple xs => exact kit_ty (a := "tuple") (b := "list") (r := false) (by decide +kernel)
    | dict kvs => exact kit_ty (a := "dict") (b := "list") (r := false) (by decide +kernel)
  · cases d with
    | none => exact kit_ty (a := "NoneType") (b := "tuple") (r := false) (by decide +kernel)
    | bool b => exact kit_ty (a := "bool") (b := "tuple") (r := false) (by decide +kernel)
    | int i => exact kit_ty (a := "int") (b := "tuple") (r := false) (by decide +kernel)
    | str x => exact kit_ty (a := "str") (b := "tuple") (r := false) (by decide +kernel)
    | list xs => exact kit_ty (a := "list") (b := "tuple") (r := false) (by decide +kernel)
    | tuple xs => exact kit_ty (a := "tuple") (b := "tuple") (r := true) (by decide +kernel)
    | dict kvs => exact kit_ty (a := "dict") (b := "tuple") (r := false) (by decide +kernel)
theorem wp_isi2 {a b : String} (ha : a = "list" ∨ a = "tuple") (hb : b = "list" ∨ b = "tuple") (h : Wp K A te S fun A1 s => ∃ d, s = .dat d ∧ k A1 (.dat (.bool (isK a d || isK b d)))) :
    Wp K A (tCB (rIsiT K) (tCons te (tCons (tTup (tCons (tC (.ty a)) (tCons (tC (.ty b)) tNil))) tNil))) S k := fun R F σ H Q at' sd q =>
  h R F σ H _ at' sd fun A1 s v F1 H1 ⟨d, hs, hk⟩ e1 a1 r1 => by
    subst hs
    refine ⟨by show 2 ≤ sizeLine; decide, fun T hT => ?_⟩
    obtain ⟨a2, e2⟩ := a1.alloc (o := .tup [.ty a, .ty b]) hT
    have r1' : Dt K F1 v d := r1
    refine ⟨v, T, [.ty a, .ty b], .type (tyD d), [.type a, .type b], _, rfl, upd_same, .cons (.ty a) (.cons (.ty b) .nil), TyX.monoS a2.same (r1'.mono e2), ?_, q A1 _ _ _ _ hk (e1.trans e2) a2 (.bl _)⟩
    refine kitAny_cons (isK_ty ha d) (fun ea => ?_) (fun ea => by rw [ea]; rfl)
    rw [ea, Bool.false_or]
    refine kitAny_cons (isK_ty hb d) (fun eb => ?_) (fun eb => eb)
    rw [eb]
    rfl
end
/-! ### xs[::s], s one or minus one -/
def tStepL (K : PySem.W.Frag) (te : TE) (ts : TO) : TE := fun σ H Q => te σ H fun x H1 => ts σ H1 fun o H2 => ∃ a xs, x = .ref a ∧ SqL K H2 a xs ∧ ∃ ys : List V, ((o = some 1 ∧ ys = xs) ∨ (o = some (-1) ∧ ys = xs.reverse)) ∧ ∀ p, H2 p = none → Q (.ref p) (upd H2 p (.lst ys))
theorem pick_one (its : List Value) : slicePick its.toArray none none (some 1) = its.toArray := by
  have h : slicePick its.toArray none none (some 1) = slicePick its.toArray none none none := rfl
  rw [h, slicePick_cut]
  simp [HT.sIx]
theorem pe_stepL {X : Cx} {e st : Expr} {te : TE} {ts : TO} {p3 pos : Pos} (he : PE X e te) (hst : PO X (some st) ts) : PE X (.Subscript e (.Slice none none (some st) p3) pos) (tStepL X.K te ts) := by
  refine ⟨fun pins s σ H Q I h => ?_⟩
  refine Subscript_ (thn (he.run pins s σ H _ I h) fun v s1 ⟨x, H1, I1, r1, q1⟩ => ?_)
  refine wpAny_Slice (thn (po_none.run pins s1 σ H1 (fun o H2 => o = none ∧ H2 = H1) I1 ⟨rfl, rfl⟩) fun vl s2 ⟨l, H2, I2, pl, el, e2⟩ => ?_)
  subst el e2
  refine thn (po_none.run pins s2 σ H2 (fun o H3 => o = none ∧ H3 = H2) I2 ⟨rfl, rfl⟩) fun vu s3 ⟨u, H3, I3, pu, eu, e3⟩ => ?_
  subst eu e3
  refine thn (hst.run pins s3 σ H3 _ I3 q1) fun vs s4 ⟨o, H4, I4, ps, q⟩ => ?_
  obtain ⟨a, xs, ex, hx, ys, hy, q⟩ := q
  subst ex
  cases r1
  have I5 : Inv X pins σ H4 { s4 with heap := s4.heap.push { cls := .type "slice", data := .fields #[vl, vu, vs] } } := I4.kept (t' := s4.toks) fun b ob q => Heap.get?_push_of_some _ q
  obtain ⟨its, r, ht, hz⟩ := I5.list hx
  have hlen := r.length
  show wpAny (model X.prog X.w) X.A (subscriptTail e (.Slice none none (some st) p3) (.ref a) (.ref s4.heap.objs.size)) (EP X pins σ Q) X.xe { s4 with heap := s4.heap.push { cls := .type "slice", data := .fields #[vl, vu, vs] } }
  refine tail_any (ops := [.ref a, .ref s4.heap.objs.size]) ht.isList.typeIs (PySem.slot_list_getitem.lookup) ?_ (by with_unfolding_all rfl)
  rcases hy with ⟨rfl, rfl⟩ | ⟨rfl, rfl⟩
  · refine wpAny_getItem_list_slice ht.isList (Heap.IsSliceOf.new _ vl vu vs) pl pu ps (by decide) ?_ (by rw [List.size_toArray]; omega)
    rw [pick_one]
    refine ⟨.ref _, _, I5.laid (t' := s4.toks) (o := .lst ys) (fun b ob q => Heap.get?_push_of_some _ q) (Nat.le_refl _) ?_, rfl, q _ (I5.hok.fresh (Nat.le_refl _))⟩
    exact ⟨hz, _, 0, r, Heap.get?_push_size _ rfl⟩
  · refine wpAny_getItem_list_slice ht.isList (Heap.IsSliceOf.new _ vl vu vs) pl pu ps (by decide) ?_ (by rw [List.size_toArray]; omega)
    rw [PySem.W.krv_pick]
    refine ⟨.ref _, _, I5.laid (t' := s4.toks) (o := .lst xs.reverse) (fun b ob q => Heap.get?_push_of_some _ q) (Nat.le_refl _) ?_, rfl, q _ (I5.hok.fresh (Nat.le_refl _))⟩
    exact ⟨by rw [List.length_reverse]; exact hz, _, 0, r.reverse, Heap.get?_push_size _ rfl⟩
theorem pe_stepLK (K : PySem.W.Frag) {X : Cx} {e st : Expr} {te : TE} {ts : TO} {p3 pos : Pos} (he : PE X e te) (hst : PO X (some st) ts) (h : X.K = K := by rfl) : PE X (.Subscript e (.Slice none none (some st) p3) pos) (tStepL K te ts) := h ▸ pe_stepL he hst
theorem dt_rev {K : PySem.W.Frag} {F : Hp} {xs : List V} {ds : List PyData} (h : DtAll K F xs ds) : DtAll K F xs.reverse ds.reverse := by
  induction ds generalizing xs with
  | nil => cases h; exact .nil
  | cons d ds ih =>
    cases h with
    | cons h t =>
      rw [List.reverse_cons, List.reverse_cons]
      exact (ih t).append (.cons h .nil)
section
variable {K : PySem.W.Frag} {A : Amb} {S : List SV} {k : KA} {te : TE} {ts : TO}
theorem wp_stepL (h : Wp K A te S fun A1 s => WpO K A1 ts S fun A2 o => ∃ ds es : List PyData, s = .dat (.list ds) ∧ ((o = some 1 ∧ es = ds) ∨ (o = some (-1) ∧ es = ds.reverse)) ∧ k A2 (.dat (.list es))) : Wp K A (tStepL K te ts) S k := fun R F σ H Q a sd q =>
  h R F σ H _ a sd fun A1 s v F1 H1 h1 e1 a1 r1 => h1 R F1 σ H1 _ a1 (sd.mono e1) fun A2 o F2 H2 ⟨ds, es, hs, ho, hk⟩ e2 a2 => by
    subst hs
    obtain ⟨p, xs, rfl, g1, g2⟩ := sr_lst (SR.mono e2 r1)
    refine ⟨p, xs, rfl, .inl (.inl (a2.same _ _ g1)), ?_⟩
    rcases ho with ⟨rfl, rfl⟩ | ⟨rfl, rfl⟩
    · refine ⟨xs, .inl ⟨rfl, rfl⟩, fun n hn => ?_⟩
      obtain ⟨a3, e3⟩ := a2.alloc (o := .lst xs) hn
      exact q _ _ _ _ _ hk ((e1.trans e2).trans e3) a3 (.lst upd_same (g2.mono e3))
    · refine ⟨xs.reverse, .inr ⟨rfl, rfl⟩, fun n hn => ?_⟩
      obtain ⟨a3, e3⟩ := a2.alloc (o := .lst xs.reverse) hn
      exact q _ _ _ _ _ hk ((e1.trans e2).trans e3) a3 (.lst upd_same ((dt_rev g2).mono e3))
end
theorem pe_fldK (K : PySem.W.Frag) {X : Cx} {e : Expr} {f : Str} {pos : Pos} {ta : TE} (he : PE X e ta) (hb : attributeBase e f X.env (eval e X.env) = eval e X.env) (h : X.K = K := by rfl) : PE X (.Attribute e f pos) (tFld K ta f) := h ▸ pe_fld he hb
def rAbs : List V → Hp → VK → Prop := fun xs H Q => ∃ i, xs = [.int i] ∧ Q (.int (if i < 0 then -i else i)) H
theorem call_absN {X : Cx} : CallR X (.builtin "abs") rAbs := call_abs
theorem cw_abs {K : PySem.W.Frag} {A : Amb} {k : KA} {i : Int} (h : k A (.dat (.int (if i < 0 then -i else i)))) : CW K rAbs [.dat (.int i)] A k := fun R F H vs Q a r q => by
  obtain ⟨v, rfl, r1⟩ := one_of r
  obtain rfl := sr_int r1
  exact ⟨i, rfl, q A _ _ F H h (Same.refl F) a (.int _)⟩
theorem wp_dnew {K : PySem.W.Frag} {A : Amb} {S : List SV} {k : KA} (h : ∀ p, k (A.add p (.dk [])) (.ptr p)) : Wp K A tDNewK S k := fun R F σ H Q a sd q p hp => q _ _ _ _ _ (h p) (Same.refl F) (a.new (o := .dK []) (c := .dk []) hp ⟨[], upd_same, .nil⟩) rfl
section
variable {α : Type} {K : PySem.W.Frag} {A : Amb} {S : List SV} {k : KA} {te : TE} {tt : TT} {wi : TI} {g : TG} {vs : List Nat}
/-- .. the items known when the source has been told -/
theorem wp_lcMOX {enc : α → PyData} (to : TOnly g vs) (p : α → Bool) (f : α → PyData)
    (h : IW K A wi S fun A1 ss => ∃ xs : List α, xs.length ≤ sizeLine ∧ ss = (xs.map enc).map .dat ∧ (∀ x ∈ xs, LcItem K g tt te S vs A1 (.dat (enc x)) (p x) (f x)) ∧ ∀ q, k (A1.add q (.lst (((xs.filter p).map f).map .dat))) (.ptr q)) : Wp K A (tLc wi g tt te vs) S k :=
  wp_lcO to <| IW.imp h fun A1 ss ⟨xs, hl, e, hs, hk⟩ => by
    subst e
    refine ⟨fun i A2 acc => A2 = A1 ∧ i ≤ xs.length ∧ acc = (((xs.take i).filter p).map f).map .dat, ⟨rfl, Nat.zero_le _, by simp⟩, fun i s hi A2 acc ⟨e1, e0, e2⟩ => ?_, fun A2 acc ⟨e1, e0, e2⟩ q => ?_⟩
    · subst e1; subst e2
      obtain ⟨x, hx, rfl⟩ := get_enc hi
      have hlt := (List.getElem?_eq_some_iff.mp hx).1
      refine (hs x (List.mem_of_getElem? hx)).imp fun A3 S3 h3 => h3.imp fun A4 b ⟨e5, h5, h6⟩ => ⟨fun hb => ?_, fun hb => ?_⟩
      · rw [e5] at hb
        refine (h5 hb).imp fun A5 s5 ⟨e6, e7⟩ => ?_
        subst e6; subst e7
        refine ⟨?_, rfl, hlt, by rw [filter_take p f hx, if_pos hb, List.map_append]; rfl⟩
        have h1 := List.length_filter_le p (xs.take i)
        have h2 : (xs.take i).length = i := by rw [List.length_take]; omega
        rw [List.length_map, List.length_map]
        omega
      · rw [e5] at hb
        have := h6 hb
        subst this
        exact ⟨rfl, hlt, by rw [filter_take p f hx, if_neg (by rw [hb]; exact Bool.false_ne_true), List.append_nil]⟩
    · subst e1; subst e2
      rw [List.length_map, List.length_map, List.take_length]
      exact hk q
theorem wp_lcAX {enc : α → PyData} (to : TOnly g vs) (f : α → PyData)
    (h : IW K A wi S fun A1 ss => ∃ xs : List α, xs.length ≤ sizeLine ∧ ss = (xs.map enc).map .dat ∧ (∀ x ∈ xs, GW K g (.dat (enc x)) (wipeS S vs) A1 fun A3 S3 => Wp K A3 te S3 fun A5 s5 => A5 = A1 ∧ s5 = .dat (f x)) ∧ k A1 (.dat (.list (xs.map f)))) : Wp K A (tLc wi g tYes te vs) S k :=
  wp_frz <| wp_lcMOX (enc := enc) to (fun _ => true) f <| IW.imp h fun A1 ss ⟨xs, hl, e, hs, hk⟩ => ⟨xs, hl, e, fun x hx => lc_item (hs x hx), fun q => ⟨q, _, A1.cells, rfl, .head, by rw [filter_true]; exact hk⟩⟩
end
/-- a, b = x, y with owned things among them -/
theorem go_asgT {K : PySem.W.Frag} {A : Amb} {S : List SV} {E : DE} {ta : TA} {n : Nat} {u : TGs} (h : WpA K A ta S fun A1 ss => ss.length = n ∧ n ≤ 64 ∧ GWs K u ss S A1 E.nx) : Go K A (tAsg (tTup ta) (gTup K n u)) S E := fun R F σ H D a sd o =>
  h R F σ H _ a sd fun A1 ss vs F1 H1 ⟨hn, h64, hg⟩ e1 a1 r1 => by
    have hl : vs.length = n := by rw [Paired.length r1]; exact hn
    refine ⟨by rw [hl]; exact Nat.le_trans h64 (by decide), fun p hp => ?_⟩
    obtain ⟨a2, e2⟩ := a1.alloc (o := .tup vs) hp
    exact ⟨p, vs, rfl, SqT.of upd_same, hl, hg R _ σ _ vs _ a2 ((sd.mono e1).mono e2) (r1.mono e2) (o.nx.mono (e1.trans e2))⟩
theorem op_neDK {X : Cx} (hu : X.A.units + 65 < cLine) : OpR X (compareOp .NotEq) rNeDA := op_ne_dictA (by omega)
end DL

/-! len(set(xs)) of unlike texts; slices with a step. -/
namespace DL
open PySem L2 RZ PyProof.Rows
open Sem (wp)
section
variable {prog : Program} {w : World} {A : Around} {R : Result → Shared → Prop} {I : Addr} {fp wr : List Addr} {G : Array GenState → Array GenState → Prop} {n : Nat} {P : Nat → Value → Prop} {St : Nat → Shared → Prop}
/-- each text is new to the set -/
theorem loop_texts (W : WalksS prog w A.in1 I fp wr G n P St) (S : Addr) (hSf : S ∉ fp) (xs : List Str) (hsz : xs.length = n) (hn1 : n < 4000) (hnd : xs.Nodup)
    (hval : ∀ i v, P i v → ∃ t, v = .str (xs.getD i Str.empty) t) :
    ∀ (k i : Nat) (s : Shared), n - i = k → i ≤ n → St i s →
      s.heap.SetOf (PySem.strKind prog w) S (fun k' => (xs.take i).any (· == k')) i →
      (∀ s', Moved (S :: wr) G s s' → s'.heap.SetOf (PySem.strKind prog w) S (fun k' => (xs.take n).any (· == k')) n → R (.ok (.ret .none)) s') →
      codeAny (model prog w) A (.builtin "set.update.loop" ⟨[.ref S, .ref I], []⟩) R s := by
  have hSw : S ∉ wr := fun h => hSf (W.sub _ h)
  have hsub : ∀ b ∈ wr, b ∈ S :: wr := fun b hb => List.mem_cons_of_mem _ hb
  intro k
  induction k with
  | zero =>
    intro i s hk hi hst hS hR
    have hin : i = n := by omega
    subst hin
    refine codeAny_builtin PyProof.Rows.F.entry_set_update_loop ?_
    rw [Around.under_plainId PyProof.Rows.F.plain_set_update_loop _]
    show wpAny _ A.in1 (pyNext (.ref I) >>= _) _ _ s
    refine wpAny_bind (W.done s _ _ hst fun s' hm => ?_)
    show wpAny _ A.in1 (ret Value.none) _ _ s'
    refine wpAny_pure (hR s' (hm.mono hsub) ?_)
    obtain ⟨o, es, ep, t, ho, rest⟩ := hS
    exact ⟨o, es, ep, t, hm.heap S _ hSw ho, rest⟩
  | succ k ih =>
    intro i s hk hi hst hS hR
    have hlt : i < n := by omega
    refine codeAny_builtin PyProof.Rows.F.entry_set_update_loop ?_
    rw [Around.under_plainId PyProof.Rows.F.plain_set_update_loop _]
    show wpAny _ A.in1 (pyNext (.ref I) >>= _) _ _ s
    refine wpAny_bind (W.item i s _ _ hlt hst fun v s' hP hst' hm => ?_)
    obtain ⟨t, rfl⟩ := hval i v hP
    have hS' : s'.heap.SetOf (PySem.strKind prog w) S (fun k' => (xs.take i).any (· == k')) i := by
      obtain ⟨o, es, ep, tb, ho, rest⟩ := hS
      exact ⟨o, es, ep, tb, hm.heap S _ hSw ho, rest⟩
    have hx : xs[i]? = some (xs.getD i Str.empty) := by
      rw [List.getD_eq_getElem?_getD, List.getElem?_eq_getElem (by omega)]
      rfl
    have hnew : ((xs.take i).any (· == xs.getD i Str.empty)) = false := by
      rw [List.any_eq_false]
      intro y hy e
      rw [beq_iff_eq] at e
      subst e
      obtain ⟨j, hj⟩ := List.getElem?_of_mem hy
      rw [List.getElem?_take] at hj
      split at hj
      · rename_i hlt2
        have := (List.getElem?_inj (List.getElem?_eq_some_iff.mp hj).1 hnd).mp (hj.trans hx.symm)
        omega
      · cases hj
    show wpAny _ A.in1 (holding [Value.str (xs.getD i Str.empty) t] (setAdd S (.str (xs.getD i Str.empty) t)) >>= _) _ _ s'
    refine wpAny_bind (wpAny_holding ?_)
    unfold setAdd
    refine wpAny_holding ?_
    refine wpAny_bind ((PySem.strKind prog w).pyHash (k := xs.getD i Str.empty) (strKind_is _ _ _ _) ?_)
    refine wpAny_setAddHashed_of (knd := PySem.strKind prog w) (s := { s' with toks := s'.toks + 1 }) (strKind_is _ _ _ _) rfl hS' (by unfold scanBound; omega) fun h' hsb hS2 => ?_
    have hSi : h'.SetOf (PySem.strKind prog w) S (fun k' => (xs.take (i + 1)).any (· == k')) (i + 1) := by
      refine PyProof.Rows.SetOf_congr hS2 (fun k' => ?_) ?_
      · rw [List.take_add_one, hx, List.any_append]
        show (_ || decide (k' = _)) = (_ || ((_ == k') || false))
        rw [Bool.or_false]
        congr 1
        by_cases e : k' = xs.getD i Str.empty
        · subst e; simp
        · have e2 : ¬ xs.getD i Str.empty = k' := fun z => e z.symm
          have hb : (xs.getD i Str.empty == k') = false := beq_eq_false_iff_ne.mpr e2
          rw [hb, decide_eq_false e]
      · rw [hnew]
        simp
    refine wpAny_pure ⟨plainId_quiet PyProof.Rows.F.plain_set_update_loop _, ih (i + 1) _ (by omega) hlt (W.frame _ s' _ _ hst' (Nat.le_succ _) fun b hb o e => ?_) hSi fun s'' hm'' hS'' => ?_⟩
    · rw [hsb.2 b (fun h : b = S => hSf (by rw [← h]; exact hb))]; exact e
    · refine hR s'' (Moved.trans W.gtrans ((hm.mono hsub).then_heap (Nat.le_succ _) fun b o hb e => ?_) hm'') hS''
      rw [hsb.2 b (fun h : b = S => hb (by rw [h]; exact List.mem_cons_self))]; exact e
end
section
variable {prog : Program} {w : World} {A : Around} {E : Value → Shared → Prop} {s : Shared}
theorem call_set_texts {l : Addr} {items : Array Value} {xs : List Str} {Q : Value → Shared → Prop}
    (hh : A.handled = none) (hl : s.heap.IsList l items) (hi : PyProof.Rows.StrsAre items.toList xs) (hn1 : xs.length < 4000) (hnd : xs.Nodup)
    (h : ∀ (h' : Heap) (tk : Nat), h'.SetOf (PySem.strKind prog w) s.heap.objs.size (fun k' => (xs.take items.size).any (· == k')) items.size →
      (∀ b o, b < s.heap.objs.size → s.heap.get? b = some o → h'.get? b = some o) → Q (.ref s.heap.objs.size) { s with heap := h', toks := tk }) :
    wpAny (model prog w) A (call (.type "set") [.ref l]) Q E s := by
  obtain ⟨c, tl, hmro⟩ := PySem.F.called_set.mro
  have hmade := PySem.F.called_set.made
  have hsub := PySem.F.called_set.sub
  refine wpAny_call (codeAny_of_tree ?_)
  show wpAny _ _ (callAny (.type "set") _) _ _ _
  refine wpAny_pure ⟨Code.quiet_builtin _ (by decide +kernel), codeAny_builtin PySem.F.entry_type_call ?_⟩
  rw [Around.under_plain (weight_type_call_type "set" [.ref l] []) rfl]
  have h1 := PySem.F.called_set.notType
  have h2 := PySem.F.called_set.canCreate
  have hct := PySem.F.typeCall_set_1 (.ref l)
  repeat (any_goals (first | assumption | wp_step))
  refine codeAny_mono (code_set_new_1 (.ref l) (E := E) (Q₁ := fun obj s₁ => ∃ led : Bool, obj = .ref s.heap.objs.size ∧ s₁ = { s with heap := s.heap.push { cls := .type "set", dict := none, data := .set #[] 0 (.fresh 0 0 led) } }) fun led => ⟨led, rfl, rfl⟩) fun r s₁ hr => ?_
  cases r with
  | error e => exact hr
  | ok fl =>
    cases fl with
    | ret obj =>
      obtain ⟨led, rfl, rfl⟩ := hr
      have hS : (s.heap.push { cls := .type "set", dict := none, data := .set #[] 0 (.fresh 0 0 led) }).get? s.heap.objs.size = some { cls := .type "set", dict := none, data := .set #[] 0 (.fresh 0 0 led) } := Heap.get?_push_size _ rfl
      have hT : Shared.TypeIs { s with heap := s.heap.push { cls := .type "set", dict := none, data := .set #[] 0 (.fresh 0 0 led) } } (.ref s.heap.objs.size) "set" := ⟨_, hS, rfl⟩
      have hli := PySem.F.called_set.init.lookup
      have hbi := PySem.F.called_set.init.bind (.ref s.heap.objs.size)
      repeat (any_goals (first | assumption | wp_step))
      refine codeAny_mono (codeAny_call_builtin (R := wants (fun r s₂ => r = .none ∧ ∃ h' tk, s₂ = { s with heap := h', toks := tk } ∧
          h'.SetOf (PySem.strKind prog w) s.heap.objs.size (fun k' => (xs.take items.size).any (· == k')) items.size ∧
          (∀ b o, b < s.heap.objs.size → s.heap.get? b = some o → h'.get? b = some o)) E) PySem.F.called_set.init.plain PySem.F.entry_set_init (check_set_init_1 hT ?_)) fun r₂ s₂ hr₂ => ?_
      · obtain ⟨ol, hol, hcl, nl, hdl⟩ := hl
        obtain ⟨ocls, odict, odata, oslots⟩ := ol
        simp only at hcl hdl
        subst hcl; subst hdl
        have hol' : (s.heap.push { cls := .type "set", dict := none, data := .set #[] 0 (.fresh 0 0 led) }).get? l = some { cls := .type "list", dict := odict, data := .seq items nl, slots := oslots } := Heap.get?_push_of_some _ hol
        have hsls := PySem.F.sub_list_set
        have hslf := PySem.F.sub_list_frozenset
        have hne : (Value.type "list" == Value.type "dict") = false := by decide
        have hl1 : (s.heap.push { cls := .type "set", dict := none, data := .set #[] 0 (.fresh 0 0 led) }).IsList l items := ⟨_, hol', rfl, nl, rfl⟩
        unfold Builtin.«set.__init__» noKeywords Builtin.Frozenset.updateFrom
        generalize hPI : pyIter = PI
        wp_walk
        subst hPI
        refine wpAny_pyIter_list hl1 ?_
        refine wpAny_bind (wpAny_runValue ?_)
        have hlS : l < s.heap.objs.size := Heap.lt_size hol
        have hh3 : A.in1.in1.in1.handled = none := by simp [hh]
        have hneI : l ≠ (s.heap.push { cls := .type "set", dict := none, data := .set #[] 0 (.fresh 0 0 led) }).objs.size := by
          rw [Heap.size_push]; exact Nat.ne_of_lt (Nat.lt_succ_of_lt hlS)
        have hSf : s.heap.objs.size ∉ [(s.heap.push { cls := .type "set", dict := none, data := .set #[] 0 (.fresh 0 0 led) }).objs.size, l] := by
          rw [Heap.size_push]; simp only [List.mem_cons, List.not_mem_nil, or_false, not_or]
          exact ⟨Nat.ne_of_lt (Nat.lt_succ_self _), Nat.ne_of_gt hlS⟩
        have hsz : xs.length = items.size := by rw [← StrsAre.len_eq hi, Array.length_toList]
        have hval : ∀ (i : Nat) (v : Value), items[i]? = some v → ∃ t, v = .str (xs.getD i Str.empty) t := fun i v hv => SS.strs_at hi i v (by rw [Array.getElem?_toList]; exact hv)
        refine loop_texts ((Walks.list hh3 _ l hneI items).toS) s.heap.objs.size
          hSf xs hsz (by rw [← hsz]; exact hn1) hnd hval (items.size - 0) 0 _ (by omega) (Nat.zero_le _)
          ⟨⟨_, Heap.get?_push_size _ rfl, rfl, rfl⟩, (hl1.push _)⟩ ?hS0 ?hR
        case hS0 =>
          have hget : ((s.heap.push { cls := .type "set", dict := none, data := .set #[] 0 (.fresh 0 0 led) }).push { cls := .type "list_iterator", data := .fields #[.ref l, .int 0 0] }).get? s.heap.objs.size
              = some { cls := .type "set", dict := none, data := .set #[] 0 (.fresh 0 0 led) } := Heap.get?_push_of_some _ hS
          exact PyProof.Rows.SetOf_congr ((PyProof.Rows.setObjOf_fresh (knd := PySem.strKind prog w) led).setOf hget (by unfold scanBound; omega)) (fun _ => rfl) rfl
        case hR =>
          intro s' hm hS'
          obtain ⟨h', g', d', tk', os'⟩ := s'
          have eg : g' = s.gens := hm.gens
          have ed : d' = s.drawn := hm.drawn
          have eo : os' = s.os := hm.os
          subst eg; subst ed; subst eo
          show wpAny _ _ _ _ _ _
          refine wpAny_pure ?_
          show wpAny _ _ (ret Value.none) _ _ _
          refine wpAny_pure ⟨rfl, h', tk', rfl, hS', fun b o hb e => ?_⟩
          have hb1 : b ≠ s.heap.objs.size := Nat.ne_of_lt hb
          have hb2 : b ≠ (s.heap.push { cls := .type "set", dict := none, data := .set #[] 0 (.fresh 0 0 led) }).objs.size := by
            rw [Heap.size_push]; exact Nat.ne_of_lt (Nat.lt_succ_of_lt hb)
          exact hm.heap b o (by simp only [List.mem_cons, List.not_mem_nil, or_false, not_or]; exact ⟨hb1, hb2⟩) (Heap.get?_push_of_some _ (Heap.get?_push_of_some _ e))
      · cases r₂ with
        | error e => exact hr₂
        | ok fl₂ =>
          cases fl₂ with
          | ret r =>
            obtain ⟨rfl, h', tk, rfl, hS', hk'⟩ := hr₂
            repeat (any_goals (first | assumption | wp_step))
            exact h _ _ hS' hk'
          | _ => exact hr₂.elim
    | _ => exact hr.elim
end
/-- len(set(xs)), xs a list of unlike texts -/
def tLenSetX (K : PySem.W.Frag) (ta : TE) : TE := fun σ H Q => ta σ H fun x H1 => ∃ l, ∃ xs : List Str, x = .ref l ∧ SqL K H1 l (xs.map V.str) ∧ xs.length < 4000 ∧ xs.Nodup ∧ Q (.int xs.length) H1
theorem pe_lenSetX {X : Cx} {a : Expr} {ta : TE} {p p2 q pos : Pos} (hc : X.calm = true) (hg : Gl X "len") (hm : X.mg "len" = none) (hg2 : Gl X "set") (hm2 : X.mg "set" = none) (ha : PE X a ta)
    (na : starEach [a] X.env = (false, eval a X.env) :: starEach [] X.env := by rfl) : PE X (.Call (.Name "len" p) [.Call (.Name "set" p2) [a] [] q] [] pos) (tLenSetX X.K ta) := by
  refine ⟨fun pins s σ H Q I h => ?_⟩
  refine Call_ (ld_blt I hg hm boot_len ?_)
  refine PyProof.Rows.callWith_builtin1 (PyProof.Rows.args_cons ?_ rfl) rfl rfl
  refine Call_ (ld_blt I hg2 hm2 boot_set ?_)
  refine PyProof.Rows.callWith_type1 (PyProof.Rows.args_cons (thn (ha.run pins s σ H _ I h) fun v s1 ⟨x, H1, I1, r1, q1⟩ => PyProof.Rows.args_nil ?_) na) na rfl
  obtain ⟨l, xs, rfl, hq, h1, h2, q1⟩ := q1
  cases r1
  obtain ⟨its, r, pl, hz⟩ := I1.list hq
  refine call_set_texts (I1.ok.hd hc) pl.isList (by simpa using strsAre_of r) h1 h2 fun h' tk hS hk => ?_
  refine PyProof.Rows.args_nil ?_
  have hl : its.toArray.size = xs.length := by rw [List.size_toArray, ← r.length, List.length_map]
  rw [hl] at hS
  obtain ⟨o, es, ep, t, ho, hex, hd, _, _, _, hf, hn⟩ := hS
  have I2 : Inv X pins σ H1 { s1 with heap := h', toks := tk } := I1.kept fun b o e => hk b o (Heap.lt_size e) e
  exact call_len_set ho hex hd hf (by rw [hn] <;> omega) ⟨.int xs.length, H1, I2.tok _, ⟨_, by rw [hn]⟩, q1⟩
theorem pe_lenSetXK (K : PySem.W.Frag) {X : Cx} {a : Expr} {ta : TE} {p p2 q pos : Pos} (hc : X.calm = true) (hg : Gl X "len") (hm : X.mg "len" = none) (hg2 : Gl X "set") (hm2 : X.mg "set" = none) (ha : PE X a ta)
    (na : starEach [a] X.env = (false, eval a X.env) :: starEach [] X.env := by rfl) (h : X.K = K := by rfl) : PE X (.Call (.Name "len" p) [.Call (.Name "set" p2) [a] [] q] [] pos) (tLenSetX K ta) := h ▸ pe_lenSetX hc hg hm hg2 hm2 ha na
section
variable {K : PySem.W.Frag} {A : Amb} {S : List SV} {k : KA} {ta : TE}
theorem wp_lenSet (h : Wp K A ta S fun A1 s => ∃ xs : List Str, s = .dat (.list (xs.map .str)) ∧ xs.length < 4000 ∧ xs.Nodup ∧ k A1 (.dat (.int xs.length))) : Wp K A (tLenSetX K ta) S k := fun R F σ H Q a sd q =>
  h R F σ H _ a sd fun A1 s v F1 H1 ⟨xs, hs, h1, h2, hk⟩ e1 a1 r1 => by
    subst hs
    obtain ⟨p, vs, rfl, f1, f2⟩ := sr_lst r1
    obtain rfl := dt_strs f2
    exact ⟨p, xs, rfl, .inl (.inl (a1.same _ _ f1)), h1, h2, q A1 _ _ F1 H1 hk e1 a1 (.int _)⟩
end
end DL

/-! a, b, *c = t. -/
namespace DL
open PySem L2 RZ PyProof.Rows
open Sem (wp)
section
variable {prog : Program} {w : World} {A : Around} {E : Value → Shared → Prop} {s : Shared}
theorem walk_from (hh : A.handled = none) (I ax : Addr) (hne : ax ≠ I) (items : Array Value) (i0 : Nat) (hi0 : i0 ≤ items.size) :
    Walks prog w A I [I, ax] [I] (items.size - i0) (fun j v => items[i0 + j]? = some v) (fun j h => h.IsTupleIter I ax (i0 + j) ∧ h.IsTuple ax items) where
  sub := fun b hb => by simp at hb; simp [hb]
  frame := fun _ _ _ st hk => ⟨st.1.at fun o e => hk I (by simp) o e, st.2.at fun o e => hk ax (by simp) o e⟩
  item := fun i s Q E hi st hQ => by
    have hlt : i0 + i < items.size := by omega
    refine wpAny_pyNext_tuple_item st.1 st.2 (x := items[i0 + i]) (by simp [hlt]) fun h' hit' hs' => ?_
    exact hQ _ h' s.toks (by simp [hlt]) ⟨hit', st.2.extBut hs'.extBut hne⟩ fun b o hb e => hs'.extBut b o (fun h => hb (by simp [h])) e
  done := fun s Q E st hQ => wpAny_pyNext_tuple_end hh st.1 st.2 (by rw [Array.getElem?_eq_none]; omega) fun h' he' => hQ h' s.toks fun b o hb e => he' b o (fun h => hb (by simp [h])) e
  self := fun _ _ _ _ st hQ => wpAny_pyIter_tupleiter st.1 hQ
theorem unpack_star_last {t : Addr} {items : Array Value} {i : Nat} {Q : List Value → Shared → Prop} (hh : A.handled = none) (ht : IsTup s.heap t items) (hi : i ≤ items.size) (hz : items.size ≤ sizeLine)
    (hQ : ∀ (h' : Heap) (tk : Nat), (∀ b o, s.heap.get? b = some o → h'.get? b = some o) → Q (items.toList.take i ++ [.ref h'.objs.size]) { s with heap := h'.push { cls := .type "list", data := .seq (items.toList.drop i).toArray }, toks := tk }) :
    wpAny (model prog w) A (unpackItems (.ref t) (i + 1) (some i)) Q E s := by
  have hlt : t < s.heap.objs.size := by obtain ⟨o, ho, _⟩ := ht; exact Heap.lt_size ho
  have hne : t ≠ s.heap.objs.size := Nat.ne_of_lt hlt
  unfold unpackItems
  refine wpAny_bind ?_
  unfold notIterableAtAll
  refine wpAny_bind (wpAny_specialOf ht.typeIs slot_tuple_iter.lookup ?_)
  refine wpAny_pure ?_
  simp only [Bool.false_eq_true, if_false]
  refine wpAny_bind (wpAny_holding (iter_tuple ht ?_))
  refine wpAny_bind (wpAny_holding (draw_tuple hne i 0 _ _ ⟨_, Heap.get?_push_size _ rfl, rfl, rfl⟩ (ht.push _) (by omega) fun h₁ hit₁ hs₁ => ?_))
  have ht₁ : IsTup h₁ t items := (ht.push _).extBut hs₁.extBut hne
  have hl1 : (List.take i (List.drop 0 items.toList)).length = i := by
    rw [List.drop_zero, List.length_take, Array.length_toList]
    omega
  rw [if_neg (by rw [hl1]; omega)]
  have hsz : h₁.objs.size = s.heap.objs.size + 1 := by
    rw [hs₁.1]
    exact Heap.size_push ..
  have hit₂ : Heap.IsTupleIter h₁ s.heap.objs.size t (i + 0) := by
    obtain ⟨o, e, c, d⟩ := hit₁
    exact ⟨o, e, c, by rw [d]; simp [rawInt]⟩
  refine wpAny_bind (wpAny_holding (wpAny_collect_iter (T := "tuple_iterator") (.inr (.inr (.inr rfl))) (walk_from (A := A.in1) (prog := prog) (w := w) hh s.heap.objs.size t hne items i hi).toS
    (fun j s' st => ?_) ⟨hit₂, ht₁⟩ (fun b hb => ?_) (by simp) (fun s' acc hm hacc => ?_) (by omega)))
  · obtain ⟨o, e, c, d⟩ := st.1
    exact ⟨o, e, c⟩
  · show b < h₁.objs.size
    rw [hsz]
    simp only [List.mem_cons, List.not_mem_nil, or_false] at hb
    rcases hb with rfl | rfl
    · exact Nat.lt_succ_self _
    · exact Nat.lt_succ_of_lt hlt
  have hacc' : acc.toList = items.toList.drop i := by
    apply List.ext_getElem?
    intro j
    by_cases hj : j < acc.size
    · have h1 : acc[j]? = some acc[j] := Array.getElem?_eq_getElem hj
      have h2 := hacc.2 j _ h1
      rw [Array.getElem?_toList, h1, List.getElem?_drop, Array.getElem?_toList]
      exact h2.symm
    · have h1 := hacc.1
      rw [List.getElem?_eq_none (by rw [Array.length_toList]; omega), List.getElem?_eq_none (by rw [List.length_drop, Array.length_toList]; omega)]
  rw [hacc']
  have h0 : i + 1 - 1 - i = 0 := by omega
  simp only [h0, Nat.sub_zero]
  rw [if_neg (by omega)]
  rw [List.take_length, List.drop_length]
  obtain ⟨hp, gg, dd, tk, os⟩ := s'
  have e1 : gg = s.gens := hm.gens
  have e2 : dd = s.drawn := hm.drawn
  have e3 : os = s.os := hm.os
  subst e1 e2 e3
  have keep : ∀ b o, s.heap.get? b = some o → hp.get? b = some o := fun b o e => by
    have hb : b ≠ s.heap.objs.size := Nat.ne_of_lt (Heap.lt_size e)
    exact hm.heap b o (by simp only [List.mem_cons, List.not_mem_nil, or_false]; exact hb) (hs₁.extBut b o hb (Heap.get?_push_of_some _ e))
  refine wpAny_bind (wpAny_newObj_type ?_ (by show (items.toList.drop i).toArray.size ≤ sizeLine; rw [List.size_toArray, List.length_drop, Array.length_toList]; omega))
  rw [List.drop_zero] at *
  refine wpAny_pure ?_
  have := hQ hp tk keep
  simpa using this
end
/-- a, b, *c = a tuple of at least n items -/
def gTupS (K : PySem.W.Frag) (n : Nat) (t : TGs) : TG := fun v σ H Q => ∃ a xs, v = .ref a ∧ SqT K H a xs ∧ n ≤ xs.length ∧ ∀ D, H D = none → t (xs.take n ++ [.ref D]) σ (upd H D (.lst (xs.drop n))) Q
theorem pg_star {X : Cx} {e : Expr} {p : Pos} {t : TG} (h : PG X e t) : PGs X [.Starred e p] (gCons t gNil) := by
  refine ⟨fun pins s σ H vs us Q I r hw => ?_⟩
  obtain ⟨v, vr, e1, hw⟩ := hw
  subst e1
  cases r with
  | cons r rr =>
    show wpAny _ _ (assignInOrder [assign e X.env] _) _ _ _
    refine assignInOrder_cons (thn (h.run pins s σ H _ _ _ I r hw) fun _ s1 ⟨σ1, H1, I1, q1⟩ => ?_)
    obtain ⟨e2, q2⟩ := q1
    subst e2
    cases rr
    exact assignInOrder_nil ⟨σ1, H1, I1, q2⟩
theorem pg_tupS {X : Cx} {es : List Expr} {k : Nat} {pos : Pos} {t : TGs} (n : Nat) (hc : X.calm = true) (h : PGs X es t)
    (hn : (assignEach es X.env).length = n + 1 := by rfl) (hst : (assignEach es X.env).findIdx? (·.1) = some n := by rfl) : PG X (.Tuple es k pos) (gTupS X.K n t) := by
  refine ⟨fun pins s σ H v u Q I r hw => ?_⟩
  obtain ⟨a, xs, e1, hq, hl, hw⟩ := hw
  subst e1
  cases r
  obtain ⟨its, rv, ht, hz⟩ := I.tuple hq
  have hlen := rv.length
  rw [assign_Tuple]
  refine wpAny_bind (wpAny_standAt ?_)
  unfold unpack
  rw [hn, hst]
  refine wpAny_bind (wpAny_holding (unpack_star_last (I.ok.hd hc) ht (by rw [List.size_toArray]; omega) (by rw [List.size_toArray]; omega) fun h' tk hk => ?_))
  have I1 : Inv X pins σ H { s with heap := h', toks := tk } := I.kept hk
  have hf := I1.hok.fresh (Nat.le_refl _)
  have I2 := I1.laid (t' := tk) (a := h'.objs.size) (o := .lst (xs.drop n)) (h' := h'.push { cls := .type "list", data := .seq (its.drop n).toArray }) (fun b o e => Heap.get?_push_of_some _ e) (Nat.le_refl _) ⟨by rw [List.length_drop]; omega, its.drop n, 0, Vals.drop n rv, Heap.get?_push_size _ rfl⟩
  refine h.run pins _ σ _ _ _ Q I2 ?_ (hw _ hf)
  exact Vals.append (by simpa using Vals.take n rv) (.cons rfl .nil)
theorem pg_tupSK (K : PySem.W.Frag) {X : Cx} {es : List Expr} {k : Nat} {pos : Pos} {t : TGs} (n : Nat) (hc : X.calm = true) (h : PGs X es t)
    (hn : (assignEach es X.env).length = n + 1 := by rfl) (hst : (assignEach es X.env).findIdx? (·.1) = some n := by rfl) (hK : X.K = K := by rfl) : PG X (.Tuple es k pos) (gTupS K n t) := hK ▸ pg_tupS n hc h hn hst
theorem gw_tupS {K : PySem.W.Frag} {A : Amb} {S : List SV} {n : Nat} {u : TGs} {ds : List PyData} {k : KS} (hn : n ≤ ds.length) (h : GWs K u ((ds.take n ++ [PyData.list (ds.drop n)]).map SV.dat) S A k) : GW K (gTupS K n u) (.dat (.tuple ds)) S A k := fun R F σ H v Q a sd r q => by
  obtain ⟨p, xs, rfl, h1, h2⟩ := sr_tup r
  refine ⟨p, xs, rfl, same_t a.same h1, by rw [h2.length]; exact hn, fun D hD => ?_⟩
  obtain ⟨a2, e2⟩ := a.alloc (o := .lst (xs.drop n)) hD
  refine h R _ σ _ _ Q a2 (sd.mono e2) ?_ (q.mono e2)
  rw [List.map_append]
  exact papp (dats_srs ((h2.take n).mono e2)) (.cons (show SR K _ (.ref D) (.dat (.list (ds.drop n))) from .lst upd_same ((h2.drop n).mono e2)) .nil)
end DL

/-! The data layer: things of any kind: fine data, its repr, fresh dicts as data. -/
namespace DL
open PySem L2
mutual
/-- fine data: texts that are texts, numbers of a hundred figures -/
def fineD : PyData → Bool
  | .none | .bool _ => true
  | .int i => decide (i.natAbs < 10 ^ 100)
  | .str z => PyData.strOk z
  | .list xs | .tuple xs => fineA xs
  | .dict kvs => fineK kvs
def fineA : List PyData → Bool
  | [] => true
  | x :: xs => fineD x && fineA xs
def fineK : List (PyData × PyData) → Bool
  | [] => true
  | (k, v) :: r => fineD k && fineD v && fineK r
end
mutual
/-- how long its repr is at most -/
def wideD : PyData → Nat
  | .none => 4
  | .bool _ => 5
  | .int _ => 101
  | .str z => 10 * z.length + 2
  | .list xs | .tuple xs => wideA xs + 3
  | .dict kvs => wideK kvs + 3
def wideA : List PyData → Nat
  | [] => 0
  | x :: xs => wideD x + 2 + wideA xs
def wideK : List (PyData × PyData) → Nat
  | [] => 0
  | (k, v) :: r => wideD k + wideD v + 4 + wideK r
end
theorem strOk_lt {z : Str} (h : PyData.strOk z = true) : ∀ c ∈ z.cps.toList, c < 16 ^ 8 := fun c hc => by
  unfold PyData.strOk at h
  rw [Array.all_eq_true_iff_forall_mem] at h
  have := of_decide_eq_true (h c (Array.mem_toList_iff.mp hc))
  omega
mutual
theorem shown_fine : ∀ d : PyData, fineD d = true → d.shown.length ≤ wideD d ∧ d.showable = true
  | .none, _ => ⟨by decide +kernel, by simp [PyData.showable]⟩
  | .bool b, _ => ⟨by cases b <;> decide +kernel, by simp [PyData.showable]⟩
  | .int i, h => by
    have h1 : i.natAbs < 10 ^ 100 := by simpa [fineD] using h
    refine ⟨?_, ?_⟩
    · show ((toString i : String) : Str).length ≤ 101
      have h2 := int_text_length_le10 (a := i) (k := 100) (by decide) h1
      rw [ofString_length]
      exact h2
    · simp only [PyData.showable, decide_eq_true_eq]
      by_cases z : i.natAbs = 0
      · rw [z]; decide
      · have := (Nat.log2_lt z (k := 400)).mpr (Nat.lt_trans h1 (by decide))
        omega
  | .str z, h => by
    have h1 : PyData.strOk z = true := by simpa [fineD] using h
    exact ⟨PySem.StrLaws.reprText_len z (strOk_lt h1), by simp [PyData.showable]⟩
  | .list xs, h => by
    obtain ⟨h1, h2⟩ := shownA_fine xs (by simpa [fineD] using h)
    refine ⟨?_, by simpa [PyData.showable] using h2⟩
    have h4 := listText_le (PyData.shownAll xs)
    simp only [PyData.shown, wideD]
    omega
  | .tuple xs, h => by
    obtain ⟨h1, h2⟩ := shownA_fine xs (by simpa [fineD] using h)
    refine ⟨?_, by simpa [PyData.showable] using h2⟩
    have h4 := tupleText_le (PyData.shownAll xs)
    simp only [PyData.shown, wideD]
    omega
  | .dict kvs, h => by
    obtain ⟨h1, h2⟩ := shownK_fine kvs (by simpa [fineD] using h)
    refine ⟨?_, by simpa [PyData.showable] using h2⟩
    have h4 := dictText_len_le (PyData.shownKv kvs)
    simp only [PyData.shown, wideD]
    omega
theorem shownA_fine : ∀ xs : List PyData, fineA xs = true → piled (PyData.shownAll xs) ≤ wideA xs ∧ PyData.showableAll xs = true
  | [], _ => ⟨by simp [PyData.shownAll, piled, wideA], by simp [PyData.showableAll]⟩
  | x :: xs, h => by
    simp only [fineA, Bool.and_eq_true] at h
    obtain ⟨h1, h2⟩ := shown_fine x h.1
    obtain ⟨h4, h5⟩ := shownA_fine xs h.2
    refine ⟨?_, by simp [PyData.showableAll, h2, h5]⟩
    have h7 : piled (PyData.shownAll (x :: xs)) = x.shown.length + 2 + piled (PyData.shownAll xs) := by
      simp [PyData.shownAll, piled] <;> omega
    rw [h7]
    simp only [wideA]
    omega
theorem shownK_fine : ∀ kvs : List (PyData × PyData), fineK kvs = true → ((PyData.shownKv kvs).map (·.length)).sum + 2 * (PyData.shownKv kvs).length ≤ wideK kvs ∧ PyData.showableKv kvs = true
  | [], _ => ⟨by simp [PyData.shownKv, wideK], by simp [PyData.showableKv]⟩
  | (k, v) :: r, h => by
    simp only [fineK, Bool.and_eq_true] at h
    obtain ⟨h1, h2⟩ := shown_fine k h.1.1
    obtain ⟨h3, h4⟩ := shown_fine v h.1.2
    obtain ⟨h5, h6⟩ := shownK_fine r h.2
    refine ⟨?_, by simp [PyData.showableKv, h2, h4, h6]⟩
    have e : (k.shown ++ ": " ++ v.shown).length = k.shown.length + 2 + v.shown.length := by
      rw [Str.length_append, Str.length_append]
      rfl
    simp only [PyData.shownKv, List.map_cons, List.sum_cons, List.length_cons, wideK, e]
    omega
end
theorem fineA_mem : ∀ {xs : List PyData}, fineA xs = true ↔ ∀ x ∈ xs, fineD x = true
  | [] => by simp [fineA]
  | x :: xs => by simp [fineA, fineA_mem (xs := xs)]
theorem wideA_app : ∀ (xs ys : List PyData), wideA (xs ++ ys) = wideA xs + wideA ys
  | [], ys => by simp [wideA]
  | x :: xs, ys => by simp only [List.cons_append, wideA, wideA_app xs ys]; omega
theorem fineA_app (xs ys : List PyData) : fineA (xs ++ ys) = (fineA xs && fineA ys) := by
  induction xs with
  | nil => simp [fineA]
  | cons x xs ih => simp [fineA, ih, Bool.and_assoc]
section
variable {K : PySem.W.Frag} {A : Amb} {S : List SV} {k : KA}
/-- repr of anything fine -/
theorem cw_reprF {d : PyData} (hsys : d.hasDict = true → noLst d = true) (hs : fineD d = true) (hw : wideD d ≤ 1000000) (hd : d.depth ≤ 60) (h : k A (.dat (.str d.shown))) : CW K (rReprD K) [.dat d] A k := fun R F H vs Q a r q => by
  obtain ⟨v, rfl, r1⟩ := one_of r
  obtain ⟨h1, h2⟩ := shown_fine d hs
  exact ⟨v, d, rfl, Dt.mono a.same r1, h2, hsys, hd, Nat.le_trans h1 (Nat.le_trans hw (by decide)), q A _ _ F H h (Same.refl F) a (.str _)⟩
/-- {}: data -/
theorem wp_dnewD (h : k A (.dat (.dict []))) : Wp K A tDNewK S k := fun R F σ H Q a sd q p hp => by
  obtain ⟨a2, e2⟩ := a.alloc (o := .dK []) hp
  exact q A _ _ _ _ h e2 a2 (.dct (ds := []) upd_same rfl .nil)
end
end DL

/-! The data layer: a block that is opened as the one and closed as another. -/
namespace DL
open PySem L2
section
variable {K : PySem.W.Frag} {S : List SV} {E : DE} {tu : TS}
theorem go_open2 {ps : List Addr} {C : List Cell → Prop} (C' : List Cell → Prop) {l : List (Addr × Cell)} (h : ∀ cs, C cs → cs.length = ps.length → Go K ⟨Blk.nil, ps.zip cs ++ l⟩ tu S (E.close K ps C')) : Go K ⟨Blk.of K ps C, l⟩ tu S E := fun R F σ H D a sd o => by
  obtain ⟨cs, hc, hl, a2⟩ := a.open
  refine h cs hc hl R F σ H D a2 sd ⟨fun A1 S1 F1 σ1 H1 ⟨cs1, l1, e1, e2, e3, e4⟩ e5 a5 sd5 => ?_, fun A1 S1 F1 σ1 H1 ⟨cs1, l1, e1, e2, e3, e4⟩ e5 a5 sd5 => ?_, fun A1 S1 F1 σ1 H1 ⟨cs1, l1, e1, e2, e3, e4⟩ e5 a5 sd5 => ?_, fun A1 s1 v1 F1 H1 ⟨cs1, l1, e1, e2, e3, e4⟩ e5 a5 r5 => ?_⟩
  · subst e1
    exact o.nx _ _ _ _ _ e4 e5 (a5.close e3 e2) sd5
  · subst e1
    exact o.bk _ _ _ _ _ e4 e5 (a5.close e3 e2) sd5
  · subst e1
    exact o.ct _ _ _ _ _ e4 e5 (a5.close e3 e2) sd5
  · subst e1
    exact o.rt _ _ _ _ _ e4 e5 (a5.close e3 e2) r5
end
end DL

/-! The data layer: zip over any two of lists, tuples, texts. -/
namespace DL
open PySem L2 PySem.Spec PyProof.Rows
inductive ZS where
  | l (a : Addr)
  | t (a : Addr)
  | x (z : Str)
def ZS.v : ZS → V
  | .l a => .ref a
  | .t a => .ref a
  | .x z => .str z
def ZS.has (K : PySem.W.Frag) (H : Hp) : ZS → List V → Prop
  | .l a, xs => SqL K H a xs
  | .t a, xs => SqT K H a xs
  | .x z, xs => xs = z.cps.toList.map fun c => V.str ⟨#[c]⟩
def ZS.fp (it : Addr) : ZS → List Addr
  | .l a => [it, a]
  | .t a => [it, a]
  | .x _ => [it]
/-- its iterator at the i-th turn -/
def ZS.st (it : Addr) (i : Nat) (h : Heap) : ZS → Prop
  | .l a => h.IsListIter it a i
  | .t a => h.IsTupleIter it a i
  | .x z => ∃ t, h.IsStrIter it (strIterType z) z t i
section
variable {X : Cx} {pins : List (Addr × Obj)} {σ : L2.St} {H : Hp} {s : Shared}
theorem ZS.at_ {it : Addr} {i : Nat} {h h' : Heap} {z : ZS} (st : z.st it i h) (k : ∀ o, h.get? it = some o → h'.get? it = some o) : z.st it i h' := by
  cases z with
  | l a => exact Heap.IsListIter.at (st : h.IsListIter it a i) k
  | t a => exact Heap.IsTupleIter.at (st : h.IsTupleIter it a i) k
  | x z =>
    obtain ⟨t, o, ho, hc⟩ := st
    exact ⟨t, o, k o ho, hc⟩
theorem ZS.obj {it : Addr} {i : Nat} {h : Heap} {z : ZS} (st : z.st it i h) : ∃ o, h.get? it = some o ∧ ∀ v, o.data ≠ .cell v := by
  cases z with
  | l a =>
    obtain ⟨o, h1, _, h2⟩ := st
    exact ⟨o, h1, fun v q => by rw [h2] at q; cases q⟩
  | t a =>
    obtain ⟨o, h1, _, h2⟩ := st
    exact ⟨o, h1, fun v q => by rw [h2] at q; cases q⟩
  | x z =>
    obtain ⟨t, o, h1, _, h2⟩ := st
    exact ⟨o, h1, fun v q => by rw [h2] at q; cases q⟩
theorem vals_back : ∀ {xs : List V} {us : List Value} {j : Nat} {u : Value}, Vals xs us → us[j]? = some u → ∃ x, xs[j]? = some x ∧ RelV x u
  | _, _, _, _, .nil, e => by simp at e
  | _, _, 0, _, .cons r _, e => by simp at e; subst e; exact ⟨_, rfl, r⟩
  | _, _, j + 1, _, .cons _ t, e => by
    obtain ⟨x, h1, h2⟩ := vals_back (j := j) t (by simpa using e)
    exact ⟨x, by simpa using h1, h2⟩
theorem sign_get {z : Str} {i : Nat} {c : Nat} (h : z.cps[i]? = some c) : (z.cps.toList.map fun c => V.str ⟨#[c]⟩)[i]? = some (.str ⟨#[c]⟩) := by
  rw [List.getElem?_map, Array.getElem?_toList, h]
  rfl
/-- what it draws -/
theorem ZS.draws (I : Inv X pins σ H s) (hh : X.A.handled = none) {z : ZS} {xs : List V} (hz : z.has X.K H xs) {it : Addr} {i : Nat} (st : z.st it i s.heap) (sep : ∀ a, z = .l a ∨ z = .t a → a ≠ it) :
    ∃ (P : Nat → Value → Prop) (Q : Nat → Heap → Prop), Draws X.prog X.w X.A.in1 it (z.fp it) xs.length P Q ∧ Q i s.heap ∧ (∀ j u, P j u → ∃ x, xs[j]? = some x ∧ RelV x u) ∧ ∀ j h, Q j h → z.st it j h := by
  cases z with
  | l a =>
    obtain ⟨its, rv, p1, _⟩ := I.list (hz : SqL X.K H a xs)
    refine ⟨fun i v => its.toArray[i]? = some v, fun i h => h.IsListIter it a i ∧ h.IsList a its.toArray, by rw [show xs.length = its.toArray.size by rw [List.size_toArray]; exact rv.length]; exact Draws.list (A := X.A.in1) hh it a (sep a (.inl rfl)) its.toArray, ⟨st, p1.isList⟩, fun j u hu => ?_, fun j h q => q.1⟩
    have hu' : its[j]? = some u := by simpa using hu
    exact vals_back rv hu'
  | t a =>
    obtain ⟨its, rv, p1, _⟩ := I.tuple (hz : SqT X.K H a xs)
    refine ⟨fun i v => its.toArray[i]? = some v, fun i h => h.IsTupleIter it a i ∧ h.IsTuple a its.toArray, by rw [show xs.length = its.toArray.size by rw [List.size_toArray]; exact rv.length]; exact Draws.tuple (A := X.A.in1) hh it a (sep a (.inr rfl)) its.toArray, ⟨st, p1⟩, fun j u hu => ?_, fun j h q => q.1⟩
    have hu' : its[j]? = some u := by simpa using hu
    exact vals_back rv hu'
  | x z =>
    obtain ⟨t, st⟩ := st
    have hz : xs = z.cps.toList.map fun c => V.str ⟨#[c]⟩ := hz
    subst hz
    refine ⟨fun i v => ∃ c u, z.cps[i]? = some c ∧ v = .str ⟨#[c]⟩ u, fun i h => h.IsStrIter it (strIterType z) z t i, by rw [List.length_map, Array.length_toList]; exact Draws.text (A := X.A.in1) hh it z t, st, fun j u hu => ?_, fun j h q => ⟨t, q⟩⟩
    obtain ⟨c, tk, hc, rfl⟩ := hu
    exact ⟨_, sign_get hc, tk, rfl⟩
end
/-- the two, turn by turn, in new pairs -/
def ItzG (K : PySem.W.Frag) (z1 z2 : ZS) (n1 n2 : Nat) : It :=
  ⟨fun i H => ∃ (xs ys : List V) (x y : V), z1.has K H xs ∧ z2.has K H ys ∧ xs.length = n1 ∧ ys.length = n2 ∧ xs[i]? = some x ∧ ys[i]? = some y,
    fun i H v H' => ∃ T x y, v = .ref T ∧ H T = none ∧ H' = upd H T (.tup [x, y]) ∧ (∀ xs, z1.has K H xs → xs[i]? = some x) ∧ ∀ ys, z2.has K H ys → ys[i]? = some y,
    fun i H => ∃ xs ys : List V, z1.has K H xs ∧ z2.has K H ys ∧ xs.length = n1 ∧ ys.length = n2 ∧ (n1 ≤ i ∨ n2 ≤ i)⟩
theorem list_inj {X : Cx} {pins : List (Addr × Obj)} {σ : L2.St} {H : Hp} {s : Shared} (I : Inv X pins σ H s) {a : Addr} {xs ys : List V} (h1 : SqL X.K H a xs) (h2 : SqL X.K H a ys) : xs = ys := I.list_inj h1 h2
theorem ZS.inj {X : Cx} {pins : List (Addr × Obj)} {σ : L2.St} {H : Hp} {s : Shared} (I : Inv X pins σ H s) {z : ZS} {xs ys : List V} (h1 : z.has X.K H xs) (h2 : z.has X.K H ys) : xs = ys := by
  cases z with
  | l a => exact I.list_inj h1 h2
  | t a => exact I.tuple_inj h1 h2
  | x z => exact (h1 : xs = _).trans (h2 : ys = _).symm
theorem turn_zipG {P : Program} {w : World} {K : PySem.W.Frag} {elts : List Expr} {kk : Nat} {tpos : Pos} {z1 z2 : ZS} {n1 n2 : Nat} {z TI TO i1 i2 : Addr} (D : ZipSep2 z TI TO i1 i2 (z1.fp i1) (z2.fp i2)) (s1 : ∀ a, z1 = .l a ∨ z1 = .t a → a ≠ i1) (s2 : ∀ a, z2 = .l a ∨ z2 = .t a → a ≠ i2) :
    Turn P w K (.Tuple elts kk tpos) (ItzG K z1 z2 n1 n2) [z, TI, TO, i1, i2] z (fun i h => IsZip h z TI TO .none ∧ IsTupOf2 h TI (.ref i1) (.ref i2) ∧ (∃ x y, IsTupOf2 h TO x y) ∧ z1.st i1 i h ∧ z2.st i2 i h ∧ i ≤ n1 ∧ i ≤ n2) where
  mem := by simp
  obj := fun i h st c hc => by
    obtain ⟨hz, hTI, ⟨x, y, hTO⟩, h1, h2, _⟩ := st
    have e' : c = z ∨ c = TI ∨ c = TO ∨ c = i1 ∨ c = i2 := by simpa using hc
    rcases e' with q | q | q | q | q
    · rw [q]; exact ⟨_, hz, fun v q => nomatch q⟩
    · rw [q]; exact ⟨_, hTI, fun v q => nomatch q⟩
    · rw [q]; exact ⟨_, hTO, fun v q => nomatch q⟩
    · rw [q]; exact ZS.obj h1
    · rw [q]; exact ZS.obj h2
  keep := fun i h h' st k => by
    obtain ⟨hz, hTI, ⟨x, y, hTO⟩, h1, h2, h3⟩ := st
    exact ⟨k z (by simp) _ hz, k TI (by simp) _ hTI, ⟨x, y, k TO (by simp) _ hTO⟩, ZS.at_ h1 (fun o q => k i1 (by simp) o q), ZS.at_ h2 (fun o q => k i2 (by simp) o q), h3⟩
  item := by
    intro X hP hw hK hc i pins s σ H E I hf st hg
    subst hP hw hK
    obtain ⟨hz, hTI, ⟨x0, y0, hTO⟩, h1, h2, l1, l2⟩ := st
    obtain ⟨xs, ys, x, y, hqx, hqy, g1, g2, hx, hy⟩ := hg
    have hzl : z < s.heap.objs.size := Heap.lt_size hz
    obtain ⟨P1, Q1, D1, st1, r1, f1⟩ := ZS.draws I (I.ok.hd hc) hqx h1 s1
    obtain ⟨P2, Q2, D2, st2, r2, f2⟩ := ZS.draws I (I.ok.hd hc) hqy h2 s2
    have lt1 := (List.getElem?_eq_some_iff.mp hx).1
    have lt2 := (List.getElem?_eq_some_iff.mp hy).1
    refine wpAny_pyNext_zipD2_item D D1 D2 hz hTI hTO st1 st2 lt1 lt2 fun u u2 h' tk p1 p2 z' TO' h1' h2' hT hsz hk => ?_
    obtain ⟨x', ex, ru⟩ := r1 _ _ p1
    obtain ⟨y', ey, ru2⟩ := r2 _ _ p2
    rw [hx] at ex
    rw [hy] at ey
    cases ex
    cases ey
    refine ⟨_, rfl, wpAny_letOwnedTupleGo_zip (s := { s with heap := h', toks := tk }) z' fun h'' z'' sb => ?_⟩
    have hT2 : h''.get? s.heap.objs.size = some { cls := .type "tuple", data := .seq #[u, u2] } := (sb.2 _ (Nat.ne_of_gt hzl)).trans hT
    have new : ObjOk X.prog X.w (upd H s.heap.objs.size (.tup [x, y])) h'' s.heap.objs.size (.tup [x, y]) :=
      ⟨by show 2 ≤ sizeLine; decide, [u, u2], .cons ru (.cons ru2 .nil), ⟨_, hT2, rfl, _, rfl⟩⟩
    have I1 : Inv X pins σ (upd H s.heap.objs.size (.tup [x, y])) { s with heap := h'', toks := tk } :=
      I.turnedNew (t' := tk) (ch := [z, TI, TO, i1, i2]) (fun c o hb q => (sb.2 c (fun q' => hb (by simp [q']))).trans (hk c o (fun q' => hb (by simp [q'])) (fun q' => hb (by simp [q'])) (fun q' => hb (by simp [q'])) (fun q' => hb (by simp [q'])) q)) hf (Nat.le_refl _) new
    refine ⟨.ref s.heap.objs.size, _, I1, rfl, ⟨_, x, y, rfl, I.hok.fresh (Nat.le_refl _), rfl, fun l hl => by rw [ZS.inj I hl hqx]; exact hx, fun l hl => by rw [ZS.inj I hl hqy]; exact hy⟩, ⟨z'', ?_, ⟨u, u2, ?_⟩, ?_, ?_, by omega, by omega⟩, fun c hcm => ?_⟩
    · exact (sb.2 _ D.TIz).trans (hk _ _ D.TIz D.TITO D.TIi1 D.TIi2 hTI)
    · exact (sb.2 _ D.TOz).trans TO'
    · exact ZS.at_ (f1 _ _ h1') fun o q => (sb.2 _ D.zi1.symm).trans q
    · exact ZS.at_ (f2 _ _ h2') fun o q => (sb.2 _ D.zi2.symm).trans q
    · have hlt : c < s.heap.objs.size := by
        have e' : c = z ∨ c = TI ∨ c = TO ∨ c = i1 ∨ c = i2 := by simpa using hcm
        rcases e' with q | q | q | q | q
        · rw [q]; exact hzl
        · rw [q]; exact Heap.lt_size hTI
        · rw [q]; exact Heap.lt_size hTO
        · rw [q]; obtain ⟨_, e1, _⟩ := ZS.obj h1; exact Heap.lt_size e1
        · rw [q]; obtain ⟨_, e2, _⟩ := ZS.obj h2; exact Heap.lt_size e2
      rw [upd_ne (Nat.ne_of_lt hlt)]
      exact (hf c hcm).1
  done := by
    intro X hP hw hK hc i pins s σ H E I hf st hg
    subst hP hw hK
    obtain ⟨hz, hTI, ⟨x0, y0, hTO⟩, h1, h2, l1, l2⟩ := st
    obtain ⟨xs, ys, hqx, hqy, g1, g2, hend⟩ := hg
    obtain ⟨P1, Q1, D1, st1, r1, f1⟩ := ZS.draws I (I.ok.hd hc) hqx h1 s1
    obtain ⟨P2, Q2, D2, st2, r2, f2⟩ := ZS.draws I (I.ok.hd hc) hqy h2 s2
    exact wpAny_pyNext_zipD2_end D D1 D2 hz hTI hTO st1 st2 (by rw [g1]; exact l1) (by rw [g2]; exact l2) (hend.imp (fun q => by rw [g1]; exact Nat.le_antisymm l1 q) fun q => by rw [g2]; exact Nat.le_antisymm l2 q) fun h' tk hk => ⟨rfl, I.turnedL (t' := tk) (ch := [z, TI, TO, i1, i2]) (fun c o hb q =>
      hk c o (fun q' => hb (by simp [q'])) (fun q' => hb (by simp [q'])) (fun q' => hb (by simp [q'])) (fun q' => hb (by simp [q'])) q) hf⟩
  self := fun A i s Q E st h => wpAny_pyIter_zip st.1 h
def iZipG (K : PySem.W.Frag) (ta : TA) : TI := fun σ H R => ta σ H fun vs H1 => ∃ (z1 z2 : ZS) (xs ys : List V), vs = [z1.v, z2.v] ∧ z1.has K H1 xs ∧ z2.has K H1 ys ∧ R (ItzG K z1 z2 xs.length ys.length) H1
theorem ZS.begin {X : Cx} {pins : List (Addr × Obj)} {σ : L2.St} {H : Hp} {s : Shared} (I : Inv X pins σ H s) {z : ZS} {xs : List V} (hz : z.has X.K H xs) {u : Value} (r : RelV z.v u) :
    ∃ (o : Obj) (Hh : Heap → Prop), Begins u o Hh ∧ Hh s.heap ∧ (∀ (it : Addr) (h : Heap), h.get? it = some o → z.st it 0 h) ∧ (∀ b ∈ (z.fp 0).drop 1, b < s.heap.objs.size) ∧ ∀ a, z = .l a ∨ z = .t a → a < s.heap.objs.size := by
  cases z with
  | l a =>
    obtain ⟨its, rv, p1, _⟩ := I.list (hz : SqL X.K H a xs)
    cases (show u = Value.ref a from r)
    refine ⟨_, _, begins_list a its.toArray, p1.isList, fun it h e => ⟨_, e, rfl, rfl⟩, fun b hb => ?_, fun b hb => ?_⟩
    · have : b = a := by simpa [ZS.fp] using hb
      rw [this]; exact p1.lt
    · have : a = b := by rcases hb with hb | hb <;> cases hb; rfl
      rw [← this]; exact p1.lt
  | t a =>
    obtain ⟨its, rv, p1, _⟩ := I.tuple (hz : SqT X.K H a xs)
    obtain ⟨o1, ho1, _⟩ := id p1
    cases (show u = Value.ref a from r)
    refine ⟨_, _, begins_tuple a its.toArray, p1, fun it h e => ⟨_, e, rfl, rfl⟩, fun b hb => ?_, fun b hb => ?_⟩
    · have : b = a := by simpa [ZS.fp] using hb
      rw [this]; exact Heap.lt_size ho1
    · have : a = b := by rcases hb with hb | hb <;> cases hb; rfl
      rw [← this]; exact Heap.lt_size ho1
  | x z =>
    obtain ⟨t, rfl⟩ := r
    exact ⟨_, _, begins_text z t, trivial, fun it h e => ⟨t, _, e, rfl, rfl⟩, fun b hb => by simp [ZS.fp] at hb, fun b hb => by rcases hb with hb | hb <;> cases hb⟩
theorem ZS.fp_cons (it : Addr) (z : ZS) : z.fp it = it :: (z.fp 0).drop 1 := by cases z <;> rfl
theorem pi_zipG {X : Cx} {e e2 : Expr} {ta : TA} {p pos tpos : Pos} {elts : List Expr} {kk : Nat} (hg : Gl X "zip") (hm : X.mg "zip" = none) (ha : PA X [e, e2] ta)
    (hs : starEach [e, e2] X.env = (false, eval e X.env) :: starEach [e2] X.env := by rfl) (hpl : (backTo pos (starEach [e2] X.env)).any (·.1) = false := by rfl) :
    PI X (.Tuple elts kk tpos) (.Call (.Name "zip" p) [e, e2] [] pos) (iZipG X.K ta) := by
  refine ⟨fun pins s σ H R I h => ?_⟩
  refine Call_ (ld_blt I hg hm PyProof.Rows.boot_zip (PyProof.Rows.callWith_type1 (thn (ha.run pos pins s σ H _ I h) fun us s1 ⟨vs, H1, I1, r1, q1⟩ => ?_) hs hpl))
  obtain ⟨z1, z2, xs, ys, ex, hx, hy, q⟩ := q1
  subst ex
  cases r1 with
  | cons r rr =>
    cases rr with
    | cons r' rr =>
      cases rr
      obtain ⟨o1, G1, B1, g1, t1, b1, c1⟩ := ZS.begin I1 hx r
      obtain ⟨o2, G2, B2, g2, t2, b2, c2⟩ := ZS.begin I1 hy r'
      have fresh5 : ∀ c, c ∈ [s1.heap.objs.size + 4, s1.heap.objs.size + 2, s1.heap.objs.size + 3, s1.heap.objs.size, s1.heap.objs.size + 1] → FpOk X pins H1 c := fun c hcm => by
        have e' : c = s1.heap.objs.size + 4 ∨ c = s1.heap.objs.size + 2 ∨ c = s1.heap.objs.size + 3 ∨ c = s1.heap.objs.size ∨ c = s1.heap.objs.size + 1 := by simpa using hcm
        have hle : s1.heap.objs.size ≤ c := by
          rcases e' with z | z | z | z | z
          · rw [z]; exact Nat.le_add_right _ _
          · rw [z]; exact Nat.le_add_right _ _
          · rw [z]; exact Nat.le_add_right _ _
          · rw [z]; exact Nat.le_refl _
          · rw [z]; exact Nat.le_add_right _ _
        exact I1.fpOk hle (I1.hok.fresh hle)
      refine zip_begins2 B1 B2 g1 g2 fun h' hz hTI hTO h1 h2 hsz hk => wpAny_pyIter_zip hz ?_
      have I2 : Inv X pins σ H1 { s1 with heap := h' } := I1.kept (t' := s1.toks) hk
      have D := zip_sep2 (N := s1.heap.objs.size) b1 b2
      rw [← ZS.fp_cons, ← ZS.fp_cons] at D
      exact ⟨s1.heap.objs.size + 4, [s1.heap.objs.size + 4, s1.heap.objs.size + 2, s1.heap.objs.size + 3, s1.heap.objs.size, s1.heap.objs.size + 1], _, _, H1, rfl, I2, turn_zipG D (fun a ha e => by have h0 := c1 a ha; rw [e] at h0; exact Nat.lt_irrefl _ h0) (fun a ha e => by
          have h0 := c2 a ha
          rw [e] at h0
          exact Nat.not_succ_lt_self h0), ⟨hz, hTI, ⟨_, _, hTO⟩, t1 _ _ h1, t2 _ _ h2, Nat.zero_le _, Nat.zero_le _⟩, fresh5, q⟩
theorem pi_zipGK (K : PySem.W.Frag) {X : Cx} {e e2 : Expr} {ta : TA} {p pos tpos : Pos} {elts : List Expr} {kk : Nat} (hg : Gl X "zip") (hm : X.mg "zip" = none) (ha : PA X [e, e2] ta)
    (hs : starEach [e, e2] X.env = (false, eval e X.env) :: starEach [e2] X.env := by rfl) (hpl : (backTo pos (starEach [e2] X.env)).any (·.1) = false := by rfl) (h : X.K = K := by rfl) :
    PI X (.Tuple elts kk tpos) (.Call (.Name "zip" p) [e, e2] [] pos) (iZipG K ta) := h ▸ pi_zipG hg hm ha hs hpl
/-- what a list, a tuple, a text yields -/
def seqD : PyData → Option (List PyData)
  | .list ds => some ds
  | .tuple ds => some ds
  | .str z => some (z.cps.toList.map sig1)
  | _ => none
theorem signs_dt {K : PySem.W.Frag} (F : Hp) : ∀ cs : List Nat, DtAll K F (cs.map fun c => V.str ⟨#[c]⟩) (cs.map sig1)
  | [] => .nil
  | c :: cs => .cons (.str _) (signs_dt F cs)
theorem seqD_zs {K : PySem.W.Frag} {F : Hp} {v : V} {d : PyData} {ds : List PyData} (h : Dt K F v d) (e : seqD d = some ds) : ∃ (z : ZS) (xs : List V), v = z.v ∧ (∀ H, Same F H → z.has K H xs) ∧ DtAll K F xs ds := by
  cases h with
  | lst h1 h2 => cases e; exact ⟨.l _, _, rfl, fun H s => .inl (.inl (s _ _ h1)), h2⟩
  | tup h1 h2 => cases e; exact ⟨.t _, _, rfl, fun H s => same_t s h1, h2⟩
  | str z => cases e; exact ⟨.x z, _, rfl, fun H s => rfl, signs_dt F _⟩
  | _ => cases e
section
variable {K : PySem.W.Frag} {A : Amb} {S : List SV} {ta : TA} {k : KS}
theorem iw_zipG (h : WpA K A ta S fun A1 ss => ∃ d e ds es, ss = [.dat d, .dat e] ∧ seqD d = some ds ∧ seqD e = some es ∧ k A1 ((zipD ds es).map .dat)) : IW K A (iZipG K ta) S k := fun R F σ H Q a sd q =>
  h R F σ H _ a sd fun A1 ss vs F1 H1 ⟨d, e0, ds, es, hs, hd, he, hk⟩ e1 a1 r1 => by
    subst hs
    obtain ⟨v, w, rfl, r2, r3⟩ := two_of r1
    obtain ⟨z1, xs, rfl, f1, h2⟩ := seqD_zs r2 hd
    obtain ⟨z2, ys, rfl, f2, h4⟩ := seqD_zs r3 he
    refine ⟨z1, z2, xs, ys, rfl, f1 _ a1.same, f2 _ a1.same, q A1 _ F1 H1 _ hk e1 a1 fun A' F' H' i e at' => ?_⟩
    have hH := f1 _ (e.trans at'.same)
    have hH2 := f2 _ (e.trans at'.same)
    refine ⟨fun hi => ⟨xs, ys, hH, hH2, rfl, rfl, ?_⟩, fun s hs => ?_⟩
    · rw [List.length_map, zipD_length] at hi
      rw [h2.length, h4.length]
      omega
    · obtain ⟨d, e', hd, he, rfl⟩ := zipD_get hs
      obtain ⟨x, hx, hdx⟩ := h2.getD hd
      obtain ⟨y, hy, hdy⟩ := h4.getD he
      refine ⟨⟨xs, ys, x, y, hH, hH2, rfl, rfl, hx, hy⟩, fun z H'' w => ?_⟩
      obtain ⟨T, x', y', rfl, hT, rfl, w1, w2⟩ := w
      have q1 := w1 xs hH
      have q2 := w2 ys hH2
      rw [hx] at q1
      rw [hy] at q2
      cases q1
      cases q2
      exact pair2_new hT at' (hdx.mono e) (hdy.mono e)
end
/-! ### written dicts -/
/-- a dict of the written part with text keys: what stands at them, as data -/
def EntsOf (K : PySem.W.Frag) : List DictEntry → List (Str × PyData) → Prop
  | [], [] => True
  | e :: es, p :: ps => (∃ t, e.key = .str p.1 t) ∧ (∃ v, RelV v e.val ∧ Dt K (fun _ => none) v p.2) ∧ EntsOf K es ps
  | _, _ => False
def KTab (K : PySem.W.Frag) (w : World) (a : Addr) (L : List (Str × PyData)) : Prop :=
  ∃ es n, K.lookup a = some ⟨.type "dict", none, .dict es n, #[]⟩ ∧ PySem.W.KeysLit w.params es.toList ∧ (a == sysModules) = false ∧ EntsOf K es.toList L
theorem ents_find {K : PySem.W.Frag} : ∀ {es : List DictEntry} {L : List (Str × PyData)} {x : Str}, EntsOf K es L →
    (∀ d, L.lookup x = some d → ∃ v u, (es.find? fun e => Value.isStrOf x e.key).map (·.val) = some u ∧ RelV v u ∧ Dt K (fun _ => none) v d) ∧ (L.lookup x = none → (es.find? fun e => Value.isStrOf x e.key).map (·.val) = none)
  | [], [], x, _ => ⟨fun d h => by simp at h, fun _ => rfl⟩
  | e :: es, p :: ps, x, ⟨⟨t, hk⟩, ⟨v, r, hd⟩, h⟩ => by
    obtain ⟨i1, i2⟩ := ents_find (x := x) h
    rw [List.find?_cons, List.lookup_cons, hk]
    by_cases hx : x = p.1
    · subst hx
      have e1 : Value.isStrOf p.1 (.str p.1 t) = true := by simp [Value.isStrOf]
      rw [e1]
      simp only [beq_self_eq_true]
      exact ⟨fun d h => by cases h; exact ⟨v, e.val, rfl, r, hd⟩, fun h => by cases h⟩
    · have e1 : Value.isStrOf x (.str p.1 t) = false := by
        cases z : Value.isStrOf x (.str p.1 t) with
        | false => rfl
        | true =>
          obtain ⟨t', e'⟩ := Value.isStrOf_shape z
          injection e' with e2 _
          exact absurd e2.symm hx
      have e2 : (x == p.1) = false := beq_eq_false_iff_ne.mpr hx
      rw [e1, e2]
      exact ⟨i1, i2⟩
def tKGet (K : PySem.W.Frag) (w : World) (td ty tx : TE) : TE := fun σ H Q => td σ H fun x H1 => ∃ (a : Addr) (L : List (Str × PyData)), x = .ref a ∧ KTab K w a L ∧ ty σ H1 fun y H2 => tx σ H2 fun z H3 => ∃ (k : Str), y = .str k ∧
  (∀ d, L.lookup k = some d → ∀ v, Dt K (fun _ => none) v d → Q v H3) ∧ (L.lookup k = none → Q z H3)
theorem pe_kget2 {X : Cx} {o e f : Expr} {apos cpos : Pos} {td ty tx : TE} (ho : PE X o td) (he : PE X e ty) (hf : PE X f tx) (m : M2 X o "get" apos e f cpos) : PE X (.Call (.Attribute o "get" apos) [e, f] [] cpos) (tKGet X.K X.w td ty tx) := by
  refine ⟨fun pins s σ H Q I h => ?_⟩
  refine wpAny_Call_method m.base m.few m.line PySem.F.plainAttrs_dict PySem.F.slot_dict_get PySem.F.type_dict_get (thn (ho.run pins s σ H _ I h) fun u s1 ⟨x, H1, I1, rx, a, L, ex, ⟨es, n, hl, hk, low, ents⟩, q1⟩ => ?_)
  subst ex
  obtain rfl : u = Value.ref a := rx
  have hm := PySem.W.mapOf_K (prog := X.prog) (w := X.w) I1.kIn hl hk
  refine ⟨hm.typeIs, fun b e => ?_, ?_⟩
  · cases e
    exact ⟨_, I1.kIn _ _ hl, rfl⟩
  rw [m.trees]
  refine Calls.callWith_builtin rfl (Calls.evalArgs_plain (Calls.spliced_cons (thn (he.run pins s1 σ H1 _ I1 q1) fun iv s2 ⟨y, H2, I2, ry, q2⟩ =>
    Calls.spliced_cons (thn (hf.run pins s2 σ H2 _ I2 q2) fun fv s3 ⟨z, H3, I3, rz, k, ey, f1, f2⟩ => Calls.spliced_nil ?_))))
  subst ey
  obtain ⟨t, rfl⟩ := (show ∃ t, iv = Value.str k t from ry)
  have hm3 := PySem.W.mapOf_K (prog := X.prog) (w := X.w) I3.kIn hl hk
  refine call_meetsIn PySem.F.slot_dict_get hm3.typeIs PySem.F.entry_dict_get (PySem.F.args_dict_get_3 _ _ _) (meets_dict_get_default (strKind X.prog X.w) a (strKind_is X.prog X.w k t) low fv) ⟨_, hm3, ?_⟩
  obtain ⟨i1, i2⟩ := ents_find (x := k) ents
  have ef : findBy Value.isStrOf es k = (es.toList.find? fun e => Value.isStrOf k e.key).map (·.val) := by
    unfold findBy
    rw [Array.find?_toList]
  cases hlk : L.lookup k with
  | none =>
    have e0 : findBy Value.isStrOf es k = none := ef.trans (i2 hlk)
    rw [e0]
    exact ⟨_, H3, I3.tok _, rz, f2 hlk⟩
  | some d =>
    obtain ⟨v, u, e1, r, hd⟩ := i1 d hlk
    have e0 : findBy Value.isStrOf es k = some u := ef.trans e1
    rw [e0]
    exact ⟨v, H3, I3.tok _, r, f1 d hlk v hd⟩
theorem pe_kget2K (K : PySem.W.Frag) (w : World) {X : Cx} {o e f : Expr} {apos cpos : Pos} {td ty tx : TE} (ho : PE X o td) (he : PE X e ty) (hf : PE X f tx) (m : M2 X o "get" apos e f cpos) (hK : X.K = K := by rfl) (hw : X.w = w := by rfl) : PE X (.Call (.Attribute o "get" apos) [e, f] [] cpos) (tKGet K w td ty tx) := by
  subst hK
  subst hw
  exact pe_kget2 ho he hf m
section
variable {K : PySem.W.Frag} {w : World} {A : Amb} {S : List SV} {k : KA} {td ty tx : TE} {a : Addr} {L : List (Str × PyData)}
/-- d.get(x, e) of a written dict -/
theorem wp_kget (ht : KTab K w a L) (h : Wp K A ty S fun A1 s1 => Wp K A1 tx S fun A2 s2 => ∃ x : Str, s1 = .dat (.str x) ∧ (∀ d, L.lookup x = some d → k A2 (.dat d)) ∧ (L.lookup x = none → k A2 s2)) : Wp K A (tKGet K w (tC (.ref a)) ty tx) S k := fun R F σ H Q at' sd q => by
  refine ⟨a, L, rfl, ht, h R F σ H _ at' sd fun A1 s1 v F1 H1 h1 e1 a1 r1 => h1 R F1 σ H1 _ a1 (sd.mono e1) fun A2 s2 u F2 H2 ⟨x, hx, h2, h3⟩ e2 a2 r2 => ?_⟩
  subst hx
  obtain rfl := sr_str r1
  exact ⟨x, rfl, fun d hd v hv => q _ _ _ _ _ (h2 d hd) (e1.trans e2) a2 (hv.mono fun _ _ z => by cases z), fun hn => q _ _ _ _ _ (h3 hn) (e1.trans e2) a2 r2⟩
/-! ### order -/
def rLtI (K : PySem.W.Frag) : R2 := rLtT K
theorem op_ltK (K : PySem.W.Frag) {X : Cx} (hu : X.A.units + 65 < cLine) (h : X.K = K := by rfl) : OpR X (compareOp .Lt) (rLtI K) := h ▸ op_ltT (by omega)
theorem op_leK (K : PySem.W.Frag) {X : Cx} (hu : X.A.units + 65 < cLine) (h : X.K = K := by rfl) : OpR X (compareOp .LtE) (rLeT K) := h ▸ op_leT (by omega)
theorem dt_ints {F : Hp} : ∀ {xs : List V} {ns : List Int}, DtAll K F xs (ns.map PyData.int) → xs = ns.map V.int
  | _, [], h => by
    have h' : DtAll K F _ [] := h
    cases h'
    rfl
  | _, n :: ns, h => by
    have h' : DtAll K F _ (.int n :: ns.map PyData.int) := h
    cases h' with
    | cons r t =>
      cases r
      rw [dt_ints t]
      rfl
/-- pairs of ints by their order -/
def ltP (a b : Int × Int) : Bool := if a.1 = b.1 then decide (a.2 < b.2) else decide (a.1 < b.1)
abbrev pairD (p : Int × Int) : PyData := .tuple [.int p.1, .int p.2]
theorem rw_ltT {p q : Int × Int} (h : k A (.dat (.bool (ltP p q)))) : RW K (rLtI K) (.dat (pairD p)) (.dat (pairD q)) A k := fun R F H v w Q a r1 r2 qq => by
  obtain ⟨x, xs, rfl, h1, h2⟩ := sr_tup r1
  obtain ⟨y, ys, rfl, h3, h4⟩ := sr_tup r2
  have e1 := dt_ints (ns := [p.1, p.2]) h2
  have e2 := dt_ints (ns := [q.1, q.2]) h4
  subst e1
  subst e2
  refine ⟨x, y, [p.1, p.2], [q.1, q.2], rfl, rfl, same_t a.same h1, same_t a.same h3, ?_⟩
  have e : HT.lexLt [p.1, p.2] [q.1, q.2] = ltP p q := by
    simp only [HT.lexLt, ltP]
    by_cases h : p.1 = q.1
    · rw [if_pos h, if_pos h]
      by_cases h2 : p.2 = q.2
      · rw [if_pos h2, h2]; simp
      · rw [if_neg h2]
    · rw [if_neg h, if_neg h]
  rw [e]
  exact qq _ _ _ _ _ h (Same.refl _) a (.bl _)
theorem rw_leT {p q : Int × Int} (h : k A (.dat (.bool (!ltP q p)))) : RW K (rLeT K) (.dat (pairD p)) (.dat (pairD q)) A k := fun R F H v w Q a r1 r2 qq => by
  obtain ⟨x, xs, rfl, h1, h2⟩ := sr_tup r1
  obtain ⟨y, ys, rfl, h3, h4⟩ := sr_tup r2
  have e1 := dt_ints (ns := [p.1, p.2]) h2
  have e2 := dt_ints (ns := [q.1, q.2]) h4
  subst e1
  subst e2
  refine ⟨x, y, [p.1, p.2], [q.1, q.2], rfl, rfl, same_t a.same h1, same_t a.same h3, ?_⟩
  have e : Ob.lexAt (fun j => decide (([p.1, p.2] : List Int).getD j 0 = ([q.1, q.2] : List Int).getD j 0)) (fun j => decide (([p.1, p.2] : List Int).getD j 0 ≤ ([q.1, q.2] : List Int).getD j 0)) (decide (([p.1, p.2] : List Int).length ≤ ([q.1, q.2] : List Int).length)) 0 (min ([p.1, p.2] : List Int).length ([q.1, q.2] : List Int).length) = !ltP q p := by
    show (if decide (p.1 = q.1) = true then (if decide (p.2 = q.2) = true then decide (2 ≤ 2) else decide (p.2 ≤ q.2)) else decide (p.1 ≤ q.1)) = !ltP q p
    simp only [ltP, decide_eq_true_eq]
    by_cases h : p.1 = q.1
    · rw [if_pos h, if_pos h.symm]
      by_cases h2 : p.2 = q.2
      · rw [if_pos h2, h2]; simp
      · rw [if_neg h2, ← decide_not]
        exact decide_eq_decide.mpr (by omega)
    · rw [if_neg h, if_neg (fun z => h z.symm), ← decide_not]
      exact decide_eq_decide.mpr (by omega)
  rw [e]
  exact qq _ _ _ _ _ h (Same.refl _) a (.bl _)
end
end DL

/-! The data layer: sorted(set(pairs)), texts by their order, lists repeated, joins of tuples. -/
namespace DL
open PySem L2
theorem cr_setOfTK (K : PySem.W.Frag) (P : Program) (w : World) {X : Cx} (hc : X.calm = true) (hu : X.A.units + 65 < cLine) (h : X.K = K := by rfl) (h2 : X.prog = P := by rfl) (h3 : X.w = w := by rfl) : CallR X (.type "set") (rSetOfT K P w) := by
  subst h h2 h3
  exact cr_setOfT hc (by omega)
theorem cr_sortedTK (K : PySem.W.Frag) (P : Program) (w : World) {X : Cx} (hc : X.calm = true) (h : X.K = K := by rfl) (h2 : X.prog = P := by rfl) (h3 : X.w = w := by rfl) : CallR X (.builtin "sorted") (rSortedT K P w) := by
  subst h h2 h3
  exact cr_sortedT hc
section
variable {K : PySem.W.Frag} {P : Program} {w : World} {A : Amb} {S : List SV} {k : KA} {te to ta : TE}
theorem pairs_at {F : Hp} : ∀ {xs : List V} {cs : List (Int × Int)}, DtAll K F xs (cs.map pairD) → ∃ ks : List (Addr × List Int), xs = ks.map (fun p => V.ref p.1) ∧ ks.map (·.2) = cs.map (fun c => [c.1, c.2]) ∧ ∀ p ∈ ks, SqT K F p.1 (p.2.map V.int)
  | _, [], h => by
    have h' : DtAll K F _ [] := h
    cases h'
    exact ⟨[], rfl, rfl, by simp⟩
  | _, c :: cs, h => by
    have h' : DtAll K F _ (pairD c :: cs.map pairD) := h
    cases h' with
    | cons r t =>
      obtain ⟨ks, e1, e2, e3⟩ := pairs_at t
      have r' : Dt K F _ (.tuple [.int c.1, .int c.2]) := r
      cases r' with
      | tup h1 h2 =>
        have e := dt_ints (ns := [c.1, c.2]) h2
        subst e
        refine ⟨(_, [c.1, c.2]) :: ks, by rw [List.map_cons, ← e1], by rw [List.map_cons, List.map_cons, e2], fun p hp => ?_⟩
        rcases List.mem_cons.mp hp with rfl | hp
        · exact h1
        · exact e3 p hp
theorem pairs_dtF {F : Hp} : ∀ {L : List (Addr × List Int)} {cs : List (Int × Int)}, (∀ p ∈ L, SqT K F p.1 (p.2.map V.int)) → L.map (·.2) = cs.map (fun c => [c.1, c.2]) → DtAll K F (L.map fun p => V.ref p.1) (cs.map pairD)
  | [], [], _, _ => .nil
  | [], _ :: _, _, e => by simp at e
  | _ :: _, [], _, e => by simp at e
  | p :: L, c :: cs, h, e => by
    simp only [List.map_cons, List.cons.injEq] at e
    refine .cons (.tup (h p List.mem_cons_self) ?_) (pairs_dtF (fun q hq => h q (List.mem_cons_of_mem _ hq)) e.2)
    rw [e.1]
    exact .cons (.int _) (.cons (.int _) .nil)
/-- sorted(set(xs)), xs pairs of small numbers: rising, as data -/
theorem wp_sortSet (h : Wp K A te S fun A1 s => ∃ cs : List (Int × Int), s = .dat (.list (cs.map pairD)) ∧ cs.length < 64 ∧ (∀ c ∈ cs, (0 ≤ c.1 ∧ c.1 < 64) ∧ 0 ≤ c.2 ∧ c.2 < 64) ∧ ∀ ms : List (Int × Int), (∀ c, c ∈ ms ↔ c ∈ cs) → ms.Pairwise (fun a b => ltP a b = true) → k A1 (.dat (.list (ms.map pairD)))) :
    Wp K A (tCB (rSortedT K P w) (tCons (tCB (rSetOfT K P w) (tCons te tNil)) tNil)) S k := fun R F σ H Q a sd q => by
  refine h R F σ H _ a sd fun A1 s v F1 H1 ⟨cs, hs, hl, hb, hk⟩ e1 a1 r1 => ?_
  subst hs
  obtain ⟨l, xs, rfl, h1, h2⟩ := sr_lst r1
  obtain ⟨ks, rfl, ek, hks⟩ := pairs_at h2
  have hlen : ks.length = cs.length := by
    have := congrArg List.length ek
    simpa using this
  refine ⟨l, ks, rfl, .inl (.inl (a1.same _ _ h1)), fun p hp => same_t a1.same (hks p hp), by omega, fun st L hst hL1 hL2 => ?_⟩
  obtain ⟨a2, e2⟩ := a1.alloc (o := SetTO P w st L) hst
  have hof : ∀ p ∈ ks, ∃ c ∈ cs, p.2 = [c.1, c.2] := fun p hp => by
    have : p.2 ∈ ks.map (·.2) := List.mem_map.mpr ⟨p, hp, rfl⟩
    rw [ek] at this
    obtain ⟨c, hc, e⟩ := List.mem_map.mp this
    exact ⟨c, hc, e.symm⟩
  refine ⟨st, L, 2, 64, rfl, upd_same, fun p hp => same_t (a2.same) (same_t e2 (hks p (hL1 p hp))), by decide, fun p hp => ?_, fun L' p hpm hnd hlt hpw hp => ?_⟩
  · obtain ⟨c, hc, e⟩ := hof p (hL1 p hp)
    obtain ⟨⟨b1, b2⟩, b3, b4⟩ := hb c hc
    rw [e]
    refine ⟨rfl, ?_⟩
    intro n hn
    simp only [List.mem_cons, List.not_mem_nil, or_false] at hn
    rcases hn with rfl | rfl
    · exact ⟨b1, b2⟩
    · exact ⟨b3, b4⟩
  have hof' : ∀ p ∈ L', ∃ c ∈ cs, p.2 = [c.1, c.2] := fun p hp => hof p (hL1 p (hpm.mem_iff.mp hp))
  let toP : Addr × List Int → Int × Int := fun p => (p.2.getD 0 0, p.2.getD 1 0)
  have hto : ∀ p ∈ L', p.2 = [(toP p).1, (toP p).2] ∧ toP p ∈ cs := fun p hp => by
    obtain ⟨c, hc, e⟩ := hof' p hp
    have : toP p = c := by show (p.2.getD 0 0, p.2.getD 1 0) = c; rw [e]; rfl
    rw [this]
    exact ⟨e, hc⟩
  have em : L'.map (·.2) = (L'.map toP).map fun c => [c.1, c.2] := by
    rw [List.map_map]
    exact List.map_congr_left fun p hp => (hto p hp).1
  have hd : DtAll K (upd F1 st (SetTO P w st L)) (L'.map fun q => V.ref q.1) ((L'.map toP).map pairD) := pairs_dtF (fun p hp => same_t e2 (hks p (hL1 p (hpm.mem_iff.mp hp)))) em
  obtain ⟨a3, e3⟩ := a2.alloc (o := .lst (L'.map fun q => V.ref q.1)) hp
  refine q A1 _ _ _ _ (hk (L'.map toP) (fun c => ⟨fun hc => ?_, fun hc => ?_⟩) ?_) ((e1.trans e2).trans e3) a3 (.lst upd_same (hd.mono e3))
  · obtain ⟨p, hp, rfl⟩ := List.mem_map.mp hc
    exact (hto p hp).2
  · have h3 : [c.1, c.2] ∈ ks.map (·.2) := by
      rw [ek]
      exact List.mem_map.mpr ⟨c, hc, rfl⟩
    obtain ⟨p, hp, e⟩ := List.mem_map.mp h3
    have h4 := hL2 p hp
    rw [e] at h4
    obtain ⟨p', hp', e'⟩ := List.mem_map.mp h4
    refine List.mem_map.mpr ⟨p', hpm.mem_iff.mpr hp', ?_⟩
    show (p'.2.getD 0 0, p'.2.getD 1 0) = c
    rw [e']
    rfl
  · rw [em] at hnd
    have hnd2 : List.Pairwise (fun a b : Int × Int => a ≠ b) (L'.map toP) := by
      refine List.Pairwise.of_map (f := fun c : Int × Int => [c.1, c.2]) (fun x y hxy e => ?_) hnd
      exact hxy (by rw [e])
    rw [List.pairwise_map] at hnd2 ⊢
    refine (hnd2.and hpw).imp_of_mem fun {x y} hx hy hxy => ?_
    obtain ⟨n1, n2⟩ := hxy
    obtain ⟨ex, cx⟩ := hto x hx
    obtain ⟨ey, cy⟩ := hto y hy
    obtain ⟨b1, b2⟩ := hb _ cx
    obtain ⟨b3, b4⟩ := hb _ cy
    rw [ex, ey] at n2
    have := L2.pair_lt n2 (fun e => n1 (by
      injection e with h1 h2
      injection h2 with h2
      exact Prod.ext h1 h2)) b1 b2 b3 b4
    unfold ltP
    rcases this with h | ⟨h, h'⟩
    · rw [if_neg (by omega)]; exact decide_eq_true h
    · rw [if_pos h]; exact decide_eq_true h'
/-! ### texts by their order -/
def rLtS : R2 := fun x y H Q => ∃ i j, x = .str i ∧ y = .str j ∧ Q (.bl (decide (i.cps.toList < j.cps.toList))) H
theorem op_ltS {X : Cx} : OpR X (compareOp .Lt) rLtS := op_lt_str
theorem rw_ltS {x y : Str} (h : k A (.dat (.bool (decide (x.cps.toList < y.cps.toList))))) : RW K rLtS (.dat (.str x)) (.dat (.str y)) A k := fun R F H v w Q a r1 r2 q => by
  obtain rfl := sr_str r1
  obtain rfl := sr_str r2
  exact ⟨_, _, rfl, rfl, q _ _ _ _ _ h (Same.refl _) a (.bl _)⟩
end
/-! ### a tuple beside the empty one -/
def rEqE (K : PySem.W.Frag) : R2 := fun x y H Q => ∃ (a b : Addr) (xs : List V), x = .ref a ∧ y = .ref b ∧ SqT K H a xs ∧ SqT K H b [] ∧ Q (.bl xs.isEmpty) H
theorem op_eqE {X : Cx} (hu : X.A.units + 65 < cLine) : OpR X (compareOp .Eq) (rEqE X.K) := by
  intro pins s σ H x y v u Q I rx ry h
  obtain ⟨a, b, xs, rfl, rfl, ha, hb, q⟩ := h
  cases rx
  cases ry
  obtain ⟨its, r1, p1, _⟩ := I.tuple ha
  obtain ⟨its2, r2, p2, _⟩ := I.tuple hb
  cases r2
  refine PySem.SeqAt.eq_tupleAt (e := fun _ => true) p1 p2 (by omega) (fun j h1 h2 => absurd h2 (by simp)) ⟨.bl xs.isEmpty, H, I, ?_, q⟩
  cases r1 with
  | nil => rfl
  | cons r t => rfl
theorem op_eqEK (K : PySem.W.Frag) {X : Cx} (hu : X.A.units + 65 < cLine) (h : X.K = K := by rfl) : OpR X (compareOp .Eq) (rEqE K) := h ▸ op_eqE hu
section
variable {K : PySem.W.Frag} {A : Amb} {S : List SV} {k : KA} {te to : TE}
theorem rw_eqE {ds : List PyData} (h : k A (.dat (.bool ds.isEmpty))) : RW K (rEqE K) (.dat (.tuple ds)) (.dat (.tuple [])) A k := fun R F H v w Q a r1 r2 q => by
  obtain ⟨p, xs, rfl, h1, h2⟩ := sr_tup r1
  obtain ⟨p2, ys, rfl, h3, h4⟩ := sr_tup r2
  cases h4
  have e : ds.isEmpty = xs.isEmpty := by cases h2 <;> rfl
  refine ⟨p, p2, xs, rfl, rfl, same_t a.same h1, same_t a.same h3, ?_⟩
  rw [← e]
  exact q _ _ _ _ _ h (Same.refl _) a (.bl _)
/-! ### xs.index(n), numbers -/
theorem mt_indexK (K : PySem.W.Frag) {X : Cx} (h : X.K = K := by rfl) : MtR X "list.index" (rIndex K) := h ▸ mt_index
theorem wp_index (h : Wp K A to S fun A1 s => ∃ ns : List Int, s = .dat (.list (ns.map .int)) ∧ Wp K A1 te S fun A2 s2 => ∃ (n : Int) (j : Nat), s2 = .dat (.int n) ∧ ns[j]? = some n ∧ (∀ m : Nat, m < j → ns[m]? ≠ some n) ∧ k A2 (.dat (.int j))) :
    Wp K A (tBM K "list" (rIndex K) to (tCons te tNil)) S k := fun R F σ H Q a sd q =>
  h R F σ H _ a sd fun A1 s v F1 H1 ⟨ns, hs, hw⟩ e1 a1 r1 => by
    subst hs
    obtain ⟨p, xs, rfl, h1, h2⟩ := sr_lst r1
    have e := dt_ints h2
    subst e
    refine ⟨.inl ⟨rfl, _, .inl (.inl (a1.same _ _ h1))⟩, hw R F1 σ H1 _ a1 (sd.mono e1) fun A2 s2 w F2 H2 ⟨n, j, hs2, hj, hno, hk⟩ e2 a2 r2 => ?_⟩
    subst hs2
    obtain rfl := sr_int r2
    refine ⟨p, ns.map V.int, .int n, j, .int n, rfl, rfl, .inl (.inl ((e2.trans a2.same) _ _ h1)), rfl, ?_, by rw [List.getElem?_map, hj]; rfl, by simp [eqV], fun m z' hm hz => ?_, ?_⟩
    · rw [List.all_eq_true]
      intro z hz
      obtain ⟨i, _, rfl⟩ := List.mem_map.mp hz
      rfl
    · rw [List.getElem?_map] at hz
      obtain ⟨i, hi, rfl⟩ := Option.map_eq_some_iff.mp hz
      have : i ≠ n := fun e => hno m hm (by rw [hi, e])
      simp [eqV, this]
    · exact q _ _ _ _ _ hk (e1.trans e2) a2 (.int _)
end
/-! ### x in an owned dict -/
section
variable {K : PySem.W.Frag} {A : Amb} {S : List SV} {k : KA} {ty td : TE}
theorem look_some {F : Hp} {vs : List (Key × V)} {kvs : List (Key × SV)} (h : KVR K F vs kvs) (x : Key) : (valV vs x).isSome = (lookS kvs x).isSome := by
  obtain ⟨h1, h2⟩ := kvr_look (x := x) h
  cases e : lookS kvs x with
  | none => rw [h2 e]; rfl
  | some s =>
    obtain ⟨v, hv, _⟩ := h1 s e
    rw [hv]
    rfl
theorem wp_din (h : Wp K A ty S fun A1 s1 => Wp K A1 td S fun A2 s2 => ∃ p kvs x, s2 = .ptr p ∧ s1 = .dat (keyD x) ∧ (p, .dk kvs) ∈ A2.cells ∧ k A2 (.dat (.bool (lookS kvs x).isSome))) : Wp K A (tDIn ty td) S k := fun R F σ H Q a sd q =>
  h R F σ H _ a sd fun A1 s1 v F1 H1 h1 e1 a1 r1 => h1 R F1 σ H1 _ a1 (sd.mono e1) fun A2 s2 w F2 H2 ⟨p, kvs, x, hs2, hs, hp, hk⟩ e2 a2 r2 => by
    subst hs; subst hs2
    obtain rfl : w = .ref p := r2
    obtain rfl := keyD_v r1
    obtain ⟨vs, h3, h4⟩ := a2.cell hp
    refine ⟨p, _, rfl, DGet.k h3, ?_⟩
    rw [look_some h4]
    exact q A2 _ _ F2 H2 hk (e1.trans e2) a2 (.bl _)
theorem wp_dnotin (h : Wp K A ty S fun A1 s1 => Wp K A1 td S fun A2 s2 => ∃ p kvs x, s2 = .ptr p ∧ s1 = .dat (keyD x) ∧ (p, .dk kvs) ∈ A2.cells ∧ k A2 (.dat (.bool (!(lookS kvs x).isSome)))) : Wp K A (tDNotIn ty td) S k := fun R F σ H Q a sd q =>
  h R F σ H _ a sd fun A1 s1 v F1 H1 h1 e1 a1 r1 => h1 R F1 σ H1 _ a1 (sd.mono e1) fun A2 s2 w F2 H2 ⟨p, kvs, x, hs2, hs, hp, hk⟩ e2 a2 r2 => by
    subst hs; subst hs2
    obtain rfl : w = .ref p := r2
    obtain rfl := keyD_v r1
    obtain ⟨vs, h3, h4⟩ := a2.cell hp
    refine ⟨p, _, rfl, DGet.k h3, ?_⟩
    rw [look_some h4]
    exact q A2 _ _ F2 H2 hk (e1.trans e2) a2 (.bl _)
end
theorem atI_at {α : Type} {xs : List α} {a : Int} {x : α} (h0 : 0 ≤ a) (h1 : xs[a.toNat]? = some x) : atI xs a = some x := by
  have := (List.getElem?_eq_some_iff.mp h1).1
  unfold atI ixN
  rw [if_pos h0, if_pos (by omega)]
  exact h1
theorem ixN_at {n : Nat} {a : Int} (h0 : 0 ≤ a) (h1 : a < n) : ixN n a = some a.toNat := by
  unfold ixN
  rw [if_pos h0, if_pos h1]
/-- what is returned from here on leaves an owned object behind -/
theorem go_rtdrop {K : PySem.W.Frag} {A : Amb} {S : List SV} {E : DE} {tu : TS} (h : Go K A tu S ⟨E.nx, E.bk, E.ct, fun A1 s => ∃ p c l', Rem A1.cells p c l' ∧ E.rt ⟨A1.I, l'⟩ s⟩) : Go K A tu S E := fun R F σ H D a sd o =>
  h R F σ H D a sd ⟨o.nx, o.bk, o.ct, fun A1 s v F' H' ⟨p, c, l', hr, hk⟩ e a1 r => o.rt _ _ _ _ _ hk e (a1.drop hr) r⟩
end DL

/-! The data layer: t[::-1], truths among numbers, str(x), a, b = a list. -/
namespace DL
open PySem L2 PySem.Spec PyProof.Rows
section
variable {prog : Program} {w : World} {A : Around} {E : Value → Shared → Prop} {s : Shared}
theorem places_neg (n : Nat) : Builtin.Slice.slicePlaces ((n : Int) - 1) (-1) (-1) = n := by
  unfold Builtin.Slice.slicePlaces
  have h1 : ¬ ((-1 : Int) > 0) := by omega
  simp only [h1, if_false]
  split
  · simp
  · omega
theorem sliceApplied_neg {sl : Addr} {n : Nat} {u : Tok} {Q : Int × Int × Nat → Shared → Prop} (hs : s.heap.IsSliceOf sl .none .none (.int (-1) u))
    (h : Q ((n : Int) - 1, -1, n) s) : wpAny (model prog w) A (Builtin.Slice.sliceApplied (.ref sl) (pure (n : Int))) Q E s := by
  obtain ⟨os, hos, hcs, hds⟩ := id hs
  unfold Builtin.Slice.sliceApplied Builtin.Slice.sliceFields
  refine wpAny_bind (wpAny_bind (wpAny_field hos hds (x := .none) rfl (wpAny_bind (wpAny_field hos hds (x := .none) rfl (wpAny_bind (wpAny_field hos hds (x := .int (-1) u) rfl (wpAny_pure ?_)))))))
  refine wpAny_bind (slicePart_int ?_)
  show wpAny _ _ (if ((-1 : Int) == 0) = true then _ else _) _ _ s
  rw [if_neg (by decide)]
  refine wpAny_bind (slicePart_none (wpAny_bind (slicePart_none (wpAny_bind (wpAny_pure ?_)))))
  show wpAny _ _ (match Builtin.Slice.sliceAdjust none none (-1) (n : Int) with | (lo, hi) => pure (lo, (-1 : Int), Builtin.Slice.slicePlaces lo hi (-1))) _ _ s
  have e : Builtin.Slice.sliceAdjust none none (-1) (n : Int) = ((n : Int) - 1, -1) := by
    unfold Builtin.Slice.sliceAdjust
    simp
  rw [e]
  show wpAny _ _ (pure ((n : Int) - 1, (-1 : Int), Builtin.Slice.slicePlaces ((n : Int) - 1) (-1) (-1))) _ _ s
  rw [places_neg]
  exact wpAny_pure h
theorem pick_neg (xs : Array Value) : ((List.range xs.size).filterMap fun (m : Nat) => xs[(((xs.size : Int) - 1) + (m : Int) * (-1)).toNat]?).toArray = xs.toList.reverse.toArray := by
  congr 1
  have e : ∀ k, k ≤ xs.size → ((List.range k).filterMap fun (m : Nat) => xs[(((xs.size : Int) - 1) + (m : Int) * (-1)).toNat]?) = xs.toList.reverse.take k := by
    intro k
    induction k with
    | zero => intro _; rfl
    | succ k ih =>
      intro hk
      rw [List.range_succ, List.filterMap_append, ih (by omega), List.take_add_one]
      congr 1
      have hi : (((xs.size : Int) - 1) + (k : Int) * (-1)).toNat = xs.size - 1 - k := by omega
      have hr : xs.toList.reverse[k]? = xs[xs.size - 1 - k]? := by
        rw [List.getElem?_reverse (by rw [Array.length_toList]; omega), Array.length_toList, Array.getElem?_toList]
      simp only [List.filterMap_cons, List.filterMap_nil, hi, hr]
      cases xs[xs.size - 1 - k]? <;> rfl
  rw [e xs.size (Nat.le_refl _)]
  exact List.take_of_length_le (by rw [List.length_reverse, Array.length_toList]; exact Nat.le_refl _)
theorem getItem_tuple_rev {t sl : Addr} {items : Array Value} {u : Tok} {Q : Value → Shared → Prop} (ht : IsTup s.heap t items) (hs : s.heap.IsSliceOf sl .none .none (.int (-1) u))
    (h : Q (.ref s.heap.objs.size) { s with heap := s.heap.push { cls := .type "tuple", data := .seq items.toList.reverse.toArray } })
    (hsz : items.size ≤ sizeLine) : wpAny (model prog w) A (getItem (.ref t) (.ref sl)) Q E s := by
  have htake : sizeOk (.seq items.toList.reverse.toArray) := by
    show items.toList.reverse.toArray.size ≤ sizeLine
    rw [List.size_toArray, List.length_reverse, Array.length_toList]
    exact hsz
  obtain ⟨os, hos, hcs, hds⟩ := id hs
  have hTs : s.TypeIs (.ref sl) "slice" := ⟨os, hos, hcs⟩
  unfold getItem
  try with_reducible refine wpAny_holding ?_
  first | refine wpAny_bind (wpAny_pure ?_) | skip
  refine wpAny_bind (wpAny_sequenceKey ht.typeIs (by decide) ?_)
  refine wpAny_bind (wpAny_callSpecial?_slot (name := Str.ofString "__getitem__") ht.typeIs PyProof.Rows.slot_tuple_getitem
    (wpAny_call_entry PyProof.Rows.slot_tuple_getitem ht.typeIs entry_tuple_getitem ?_ (args_tuple_getitem _ _)))
  show wpAny _ _ (Builtin.Tuple.tupleItemsOf (.ref t) >>= _) _ _ s
  refine wpAny_bind (PyProof.Rows.tupleItemsOf_ ht ?_)
  refine wpAny_bind (wpAny_typeOf hTs ?_)
  rw [if_pos (by decide)]
  refine wpAny_bind (sliceApplied_neg hs ?_)
  have hno : ¬ ((((items.size : Int) - 1) == 0 && (-1 : Int) == 1 && items.size == items.size) = true) := by simp
  show wpAny _ _ (if (((items.size : Int) - 1) == 0 && (-1 : Int) == 1 && items.size == items.size) = true then _ else _) _ _ s
  rw [if_neg hno, pick_neg]
  first
    | exact wpAny_bind (m := Builtin.Tuple.tupleExact _) (wpAny_newObj_type (wpAny_pure ⟨_, rfl, wpAny_pure h⟩) htake)
    | exact wpAny_bind (m := Builtin.Tuple.tupleExact _) (wpAny_newObj_type (wpAny_bind (wpAny_pure (wpAny_pure ⟨_, rfl, wpAny_pure h⟩))) htake)
    | exact wpAny_bind (wpAny_bind (m := Builtin.Tuple.tupleExact _) (wpAny_newObj_type (wpAny_pure (wpAny_pure ⟨_, rfl, wpAny_pure h⟩)) htake))
    | exact wpAny_bind (wpAny_bind (m := Builtin.Tuple.tupleExact _) (wpAny_newObj_type (wpAny_pure ⟨_, rfl, wpAny_pure h⟩) htake))
end
def tRevT (K : PySem.W.Frag) (te : TE) (ts : TO) : TE := fun σ H Q => te σ H fun x H1 => ts σ H1 fun o H2 => ∃ a xs, x = .ref a ∧ SqT K H2 a xs ∧ o = some (-1) ∧ ∀ p, H2 p = none → Q (.ref p) (upd H2 p (.tup xs.reverse))
theorem pe_revT {X : Cx} {e st : Expr} {te : TE} {ts : TO} {p3 pos : Pos} (he : PE X e te) (hst : PO X (some st) ts) : PE X (.Subscript e (.Slice none none (some st) p3) pos) (tRevT X.K te ts) := by
  refine ⟨fun pins s σ H Q I h => ?_⟩
  refine Subscript_ (thn (he.run pins s σ H _ I h) fun v s1 ⟨x, H1, I1, r1, q1⟩ => ?_)
  refine wpAny_Slice (thn (po_none.run pins s1 σ H1 (fun o H2 => o = none ∧ H2 = H1) I1 ⟨rfl, rfl⟩) fun vl s2 ⟨l, H2, I2, pl, el, e2⟩ => ?_)
  subst el e2
  refine thn (po_none.run pins s2 σ H2 (fun o H3 => o = none ∧ H3 = H2) I2 ⟨rfl, rfl⟩) fun vu s3 ⟨u, H3, I3, pu, eu, e3⟩ => ?_
  subst eu e3
  refine thn (hst.run pins s3 σ H3 _ I3 q1) fun vs s4 ⟨o, H4, I4, ps, q⟩ => ?_
  obtain ⟨a, xs, ex, hx, ho, q⟩ := q
  subst ex ho
  cases r1
  cases pl
  cases pu
  cases ps with
  | int i t =>
  have I5 : Inv X pins σ H4 { s4 with heap := s4.heap.push { cls := .type "slice", data := .fields #[.none, .none, .int (-1) t] } } := I4.kept (t' := s4.toks) fun b ob q => Heap.get?_push_of_some _ q
  obtain ⟨its, r, ht, hz⟩ := I5.tuple hx
  show wpAny (model X.prog X.w) X.A (subscriptTail e (.Slice none none (some st) p3) (.ref a) (.ref s4.heap.objs.size)) (EP X pins σ Q) X.xe { s4 with heap := s4.heap.push { cls := .type "slice", data := .fields #[.none, .none, .int (-1) t] } }
  refine tail_any (ops := [.ref a, .ref s4.heap.objs.size]) ht.typeIs (PyProof.Rows.slot_tuple_getitem.lookup) ?_ (by with_unfolding_all rfl)
  have hlen := r.length
  refine getItem_tuple_rev ht (Heap.IsSliceOf.new _ .none .none (.int (-1) t)) ?_ (by rw [List.size_toArray]; omega)
  refine ⟨.ref _, _, I5.laid (t' := s4.toks) (o := .tup xs.reverse) (fun b ob q => Heap.get?_push_of_some _ q) (Nat.le_refl _) ?_, rfl, q _ (I5.hok.fresh (Nat.le_refl _))⟩
  exact ⟨by rw [List.length_reverse]; exact hz, _, r.reverse, IsTup.new _ _⟩
theorem pe_revTK (K : PySem.W.Frag) {X : Cx} {e st : Expr} {te : TE} {ts : TO} {p3 pos : Pos} (he : PE X e te) (hst : PO X (some st) ts) (h : X.K = K := by rfl) : PE X (.Subscript e (.Slice none none (some st) p3) pos) (tRevT K te ts) := h ▸ pe_revT he hst
section
variable {K : PySem.W.Frag} {A : Amb} {S : List SV} {k : KA} {te : TE} {ts : TO}
theorem wp_revT (h : Wp K A te S fun A1 s => WpO K A1 ts S fun A2 o => ∃ ds : List PyData, s = .dat (.tuple ds) ∧ o = some (-1) ∧ k A2 (.dat (.tuple ds.reverse))) : Wp K A (tRevT K te ts) S k := fun R F σ H Q a sd q =>
  h R F σ H _ a sd fun A1 s v F1 H1 h1 e1 a1 r1 => h1 R F1 σ H1 _ a1 (sd.mono e1) fun A2 o F2 H2 ⟨ds, hs, ho, hk⟩ e2 a2 => by
    subst hs ho
    obtain ⟨p, xs, rfl, g1, g2⟩ := sr_tup (SR.mono e2 r1)
    refine ⟨p, xs, rfl, same_t a2.same g1, rfl, fun n hn => ?_⟩
    obtain ⟨a3, e3⟩ := a2.alloc (o := .tup xs.reverse) hn
    exact q _ _ _ _ _ hk ((e1.trans e2).trans e3) a3 (.tup (SqT.of upd_same) ((dt_rev g2).mono e3))
end
/-! ### truths among numbers -/
def numI : PyData → Option Int
  | .int i => some i
  | .bool b => some (if b = true then 1 else 0)
  | _ => none
def rAddU : R2 := fun x y H Q => ∃ (i j : Int), ((x = .int i) ∨ ∃ b : Bool, x = .bl b ∧ i = if b = true then 1 else 0) ∧ y = .int j ∧ Q (.int (i + j)) H
theorem op_addU {X : Cx} : OpR X (binaryOp .Add) rAddU := by
  intro pins s σ H x y v u Q I rx ry h
  obtain ⟨i, j, hx, rfl, q⟩ := h
  rcases hx with rfl | ⟨b, rfl, rfl⟩
  · exact op_add pins s σ H _ _ v u Q I rx ry ⟨i, j, rfl, rfl, q⟩
  · obtain ⟨t, rfl⟩ := ry
    cases rx
    exact PySem.IntBool.add_bool_int ⟨.int _, H, I.tok _, ⟨_, rfl⟩, q⟩
def rStrU : List V → Hp → VK → Prop := fun xs H Q => (∃ i : Int, xs = [.int i] ∧ i.natAbs.log2 < 1920 ∧ Q (.str (toString i)) H) ∨ ∃ b : Bool, xs = [.bl b] ∧ Q (.str (if b then "True" else "False")) H
theorem call_strU {X : Cx} : CallR X (.type "str") rStrU := by
  intro pins s σ H xs us Q I r h
  rcases h with ⟨i, rfl, hz, q⟩ | ⟨b, rfl, q⟩
  · exact call_str_int pins s σ H _ us Q I r ⟨i, rfl, hz, q⟩
  · obtain ⟨u, rfl, hu⟩ := vals1 r
    cases hu
    exact PySem.P.str_of_bool ⟨.str _, H, I.tok _, ⟨_, rfl⟩, q⟩
def gUnlK := @gUnl
theorem pg_unlK (K : PySem.W.Frag) {X : Cx} {es : List Expr} {k : Nat} {pos : Pos} {t : TGs} (n : Nat) (hc : X.calm = true) (hp : PGs X es t) (hn : (assignEach es X.env).length = n := by rfl) (hst : (assignEach es X.env).findIdx? (·.1) = none := by rfl) (h : X.K = K := by rfl) : PG X (.Tuple es k pos) (gUnl K n t) := h ▸ pg_unl hc hp hn hst
section
variable {K : PySem.W.Frag} {A : Amb} {S : List SV} {k : KA}
theorem rw_addU {d : PyData} {i j : Int} (e : numI d = some i) (h : k A (.dat (.int (i + j)))) : RW K rAddU (.dat d) (.dat (.int j)) A k := fun R F H v w Q a r1 r2 q => by
  obtain rfl := sr_int r2
  refine ⟨i, j, ?_, rfl, q _ _ _ _ _ h (Same.refl _) a (.int _)⟩
  cases d with
  | int i' => cases e; exact .inl (sr_int r1)
  | bool b => cases e; exact .inr ⟨b, sr_bl r1, rfl⟩
  | _ => cases e
theorem cw_strU {d : PyData} {i : Int} (e : numI d = some i) (hs : i.natAbs.log2 < 1920) (h : k A (.dat (.str d.shown))) : CW K rStrU [.dat d] A k := fun R F H vs Q a r q => by
  obtain ⟨v, rfl, r1⟩ := one_of r
  cases d with
  | int i' =>
    cases e
    obtain rfl := sr_int r1
    exact .inl ⟨i, rfl, hs, q _ _ _ _ _ h (Same.refl _) a (.str _)⟩
  | bool b =>
    obtain rfl := sr_bl r1
    exact .inr ⟨b, rfl, q _ _ _ _ _ h (Same.refl _) a (.str _)⟩
  | _ => cases e
theorem gw_unl {n : Nat} {u : TGs} {ds : List PyData} {k : KS} (hn : ds.length = n) (h : GWs K u (ds.map .dat) S A k) : GW K (gUnl K n u) (.dat (.list ds)) S A k := fun R F σ H v Q a sd r q => by
  obtain ⟨p, xs, rfl, h1, h2⟩ := sr_lst r
  exact ⟨p, xs, rfl, .inl (.inl (a.same _ _ h1)), by rw [h2.length]; exact hn, h R F σ H xs Q a sd (dats_srs h2) q⟩
end
/-- a def's promises by a number, at most so great -/
theorem fn_some {P : Program} {w : World} {K : PySem.W.Frag} {mg : Str → Option Value} {base : Heap} {CX : CXT} {f : Addr} {fd : FuncData} {ps : List Str} {lev mx L : Nat} {W : Nat → List SV → Amb → KA → Prop}
    (h : ∀ n, FnOk P w K mg base CX (lev + n) f fd ps (spW K (W n))) (hl : ∀ n, n ≤ mx → lev + n ≤ L) : FnOk P w K mg base CX L f fd ps (spW K fun ss A k => ∃ n, n ≤ mx ∧ W n ss A k) where
  len := fun vs H Q E ⟨A, R, F, ss, k, a, r, ⟨n, hn, hw⟩, q⟩ => (h n).len vs H Q E ⟨A, R, F, ss, k, a, r, hw, q⟩
  run := fun A outer s H args us vs Q E hr e0 b r ⟨A1, R, F, ss, k, a, rr, ⟨n, hn, hw⟩, q⟩ => ((h n).mono (hl n hn)).run A outer s H args us vs Q E hr e0 b r ⟨A1, R, F, ss, k, a, rr, hw, q⟩
end DL

/-! The data layer: `is` between truths. -/
namespace DL
open PySem L2
def rIsB1 : R2 := fun x y H Q => ∃ a b, x = .bl a ∧ y = .bl b ∧ Q (.bl (decide (a = b))) H
def rNotB1 : R2 := fun x y H Q => ∃ a b, x = .bl a ∧ y = .bl b ∧ Q (.bl (!decide (a = b))) H
theorem op_isBl1 {X : Cx} : OpR X (compareOp .Is) rIsB1 := op_is_bl
theorem op_notBl1 {X : Cx} : OpR X (compareOp .IsNot) rNotB1 := op_isnot_bl
section
variable {K : PySem.W.Frag} {A : Amb} {k : KA}
theorem rw_isB {x y : Bool} (h : k A (.dat (.bool (decide (x = y))))) : RW K rIsB1 (.dat (.bool x)) (.dat (.bool y)) A k := fun R F H v w Q a r1 r2 q => by
  obtain rfl := sr_bl r1
  obtain rfl := sr_bl r2
  exact ⟨_, _, rfl, rfl, q _ _ _ _ _ h (Same.refl _) a (.bl _)⟩
theorem rw_notB {x y : Bool} (h : k A (.dat (.bool (!decide (x = y))))) : RW K rNotB1 (.dat (.bool x)) (.dat (.bool y)) A k := fun R F H v w Q a r1 r2 q => by
  obtain rfl := sr_bl r1
  obtain rfl := sr_bl r2
  exact ⟨_, _, rfl, rfl, q _ _ _ _ _ h (Same.refl _) a (.bl _)⟩
end
end DL

/-! The data layer: split, partition, int, f-strings, joined tuples, a star among the targets of a list. -/
namespace DL
open PySem L2 RZ PyProof.Rows
open Sem (wp)
theorem strs_dt {F : Hp} {K : PySem.W.Frag} : ∀ ys : List Str, DtAll K F (ys.map V.str) (ys.map PyData.str)
  | [] => .nil
  | y :: ys => .cons (.str _) (strs_dt ys)
def rSplitW : V → List V → Hp → VK → Prop := fun x xs H Q => ∃ a b, x = .str a ∧ xs = [.str b] ∧ (b.length == 0) = false ∧ a.length + 2 ≤ sizeLine ∧ rNewStrs (Txt.split a b) H Q
theorem mt_splitW {X : Cx} : MtR X "str.split" rSplitW := mt_split
def rPartW : V → List V → Hp → VK → Prop := fun x xs H Q => ∃ a b, x = .str a ∧ xs = [.str b] ∧ (b.length == 0) = false ∧ a.length ≤ sizeLine ∧
    ∀ p, H p = none → Q (.ref p) (upd H p (.tup [.str (Txt.partition a b).1, .str (Txt.partition a b).2.1, .str (Txt.partition a b).2.2]))
theorem mt_partW {X : Cx} : MtR X "str.partition" rPartW := mt_partition
def rIntS : List V → Hp → VK → Prop := fun xs H Q => ∃ a n, xs = [.str a] ∧ PySem.intText? a = some n ∧ a.length ≤ 640 ∧ Q (.int n) H
theorem call_intS {X : Cx} : CallR X (.type "int") rIntS := call_int_str
/-- f'..' -/
def tJoined (ts : List TE) : TE := fun σ H Q => tJs ts Str.empty σ H fun out H1 => Q (.str out) H1
theorem pe_joinedT {X : Cx} {v1 v2 : Expr} {rest : List Expr} {ts : List TE} {pos : Pos} (h : PJ X (v1 :: v2 :: rest) ts) : PE X (.JoinedStr (v1 :: v2 :: rest) pos) (tJoined ts) := pe_joined h
section
variable {K : PySem.W.Frag} {A : Amb} {S : List SV} {k : KA} {to te : TE}
theorem wp_split (h : Wp K A to S fun A1 s => ∃ a, s = .dat (.str a) ∧ Wp K A1 te S fun A2 s2 => ∃ b, s2 = .dat (.str b) ∧ (b.length == 0) = false ∧ a.length + 2 ≤ sizeLine ∧ k A2 (.dat (.list ((Txt.split a b).map .str)))) :
    Wp K A (tBM K "str" rSplitW to (tCons te tNil)) S k := fun R F σ H Q a sd q =>
  h R F σ H _ a sd fun A1 s v F1 H1 ⟨z, hs, h1⟩ e1 a1 r1 => by
    subst hs
    obtain rfl := sr_str r1
    refine ⟨rfl, h1 R F1 σ H1 _ a1 (sd.mono e1) fun A2 s2 w F2 H2 ⟨b, hs2, hb, hz, hk⟩ e2 a2 r2 => ?_⟩
    subst hs2
    obtain rfl := sr_str r2
    refine ⟨z, b, rfl, rfl, hb, hz, fun p hp => ?_⟩
    obtain ⟨a3, e3⟩ := a2.alloc (o := .lst ((Txt.split z b).map V.str)) hp
    exact q A2 _ _ _ _ hk ((e1.trans e2).trans e3) a3 (.lst upd_same (strs_dt _))
theorem wp_part (h : Wp K A to S fun A1 s => ∃ a, s = .dat (.str a) ∧ Wp K A1 te S fun A2 s2 => ∃ b, s2 = .dat (.str b) ∧ (b.length == 0) = false ∧ a.length ≤ sizeLine ∧ k A2 (.dat (.tuple [.str (Txt.partition a b).1, .str (Txt.partition a b).2.1, .str (Txt.partition a b).2.2]))) :
    Wp K A (tBM K "str" rPartW to (tCons te tNil)) S k := fun R F σ H Q a sd q =>
  h R F σ H _ a sd fun A1 s v F1 H1 ⟨z, hs, h1⟩ e1 a1 r1 => by
    subst hs
    obtain rfl := sr_str r1
    refine ⟨rfl, h1 R F1 σ H1 _ a1 (sd.mono e1) fun A2 s2 w F2 H2 ⟨b, hs2, hb, hz, hk⟩ e2 a2 r2 => ?_⟩
    subst hs2
    obtain rfl := sr_str r2
    refine ⟨z, b, rfl, rfl, hb, hz, fun p hp => ?_⟩
    obtain ⟨a3, e3⟩ := a2.alloc (o := .tup [.str (Txt.partition z b).1, .str (Txt.partition z b).2.1, .str (Txt.partition z b).2.2]) hp
    exact q A2 _ _ _ _ hk ((e1.trans e2).trans e3) a3 (.tup (SqT.of upd_same) (.cons (.str _) (.cons (.str _) (.cons (.str _) .nil))))
theorem wp_joinT (h : Wp K A to S fun A1 s => ∃ a, s = .dat (.str a) ∧ Wp K A1 te S fun A2 s2 => ∃ ys : List Str, s2 = .dat (.tuple (ys.map .str)) ∧ (ys.map (·.length)).sum + ys.length * a.length ≤ 16777216 ∧ k A2 (.dat (.str (Txt.join a ys)))) :
    Wp K A (tBM K "str" (rJoin K) to (tCons te tNil)) S k := fun R F σ H Q a sd q =>
  h R F σ H _ a sd fun A1 s v F1 H1 ⟨z, hs, h1⟩ e1 a1 r1 => by
    subst hs
    obtain rfl := sr_str r1
    refine ⟨rfl, h1 R F1 σ H1 _ a1 (sd.mono e1) fun A2 s2 w F2 H2 ⟨ys, hs2, hz, hk⟩ e2 a2 r2 => ?_⟩
    subst hs2
    obtain ⟨p, xs, rfl, f1, f2⟩ := sr_tup r2
    obtain rfl := dt_strs f2
    exact ⟨z, p, ys, rfl, rfl, .inr (same_t a2.same f1), hz, q A2 _ _ F2 H2 hk (e1.trans e2) a2 (.str _)⟩
theorem cw_intS {a : Str} {n : Int} (e : PySem.intText? a = some n) (hl : a.length ≤ 640) (h : k A (.dat (.int n))) : CW K rIntS [.dat (.str a)] A k := fun R F H vs Q at_ r q => by
  obtain ⟨v, rfl, r1⟩ := one_of r
  obtain rfl := sr_str r1
  exact ⟨a, n, rfl, e, hl, q _ _ _ _ _ h (Same.refl _) at_ (.int _)⟩
theorem wp_fmt (h : Wp K A te S fun A1 s => (∃ y : Str, s = .dat (.str y) ∧ y.length ≤ sizeLine ∧ k A1 (.dat (.str y))) ∨ ∃ i : Int, s = .dat (.int i) ∧ i.natAbs.log2 < 1920 ∧ k A1 (.dat (.str (toString i)))) :
    Wp K A (tFmt te) S k := fun R F σ H Q a sd q =>
  h R F σ H _ a sd fun A1 s v F1 H1 h1 e1 a1 r1 => by
    rcases h1 with ⟨y, hs, hz, hk⟩ | ⟨i, hs, hz, hk⟩
    · subst hs
      obtain rfl := sr_str r1
      exact .inl ⟨y, rfl, hz, q _ _ _ _ _ hk e1 a1 (.str _)⟩
    · subst hs
      obtain rfl := sr_int r1
      exact .inr ⟨i, rfl, hz, q _ _ _ _ _ hk e1 a1 (.str _)⟩
def WpJ (K : PySem.W.Frag) (A : Amb) (ts : List TE) (acc : Str) (S : List SV) (k : Amb → Str → Prop) : Prop := ∀ R F σ H Q, AtR K A R F H → SD K F σ S → (∀ A1 out F' H', k A1 out → Same F F' → AtR K A1 R F' H' → Q out H') → tJs ts acc σ H Q
theorem wpj_nil {acc : Str} {k : Amb → Str → Prop} (h : k A acc) : WpJ K A [] acc S k := fun R F σ H Q a sd q => q A acc F H h (Same.refl F) a
theorem wpj_cons {t : TE} {ts : List TE} {acc : Str} {k : Amb → Str → Prop} (h : Wp K A t S fun A1 s => ∃ y : Str, s = .dat (.str y) ∧ (acc ++ y).length ≤ sizeLine ∧ WpJ K A1 ts (acc ++ y) S k) : WpJ K A (t :: ts) acc S k := fun R F σ H Q a sd q =>
  h R F σ H _ a sd fun A1 s v F1 H1 ⟨y, hs, hz, hk⟩ e1 a1 r1 => by
    subst hs
    obtain rfl := sr_str r1
    exact ⟨y, rfl, hz, hk R F1 σ H1 Q a1 (sd.mono e1) fun A2 out F2 H2 h2 e2 a2 => q A2 out F2 H2 h2 (e1.trans e2) a2⟩
theorem wp_joined {ts : List TE} (h : WpJ K A ts Str.empty S fun A1 out => k A1 (.dat (.str out))) : Wp K A (tJoined ts) S k := fun R F σ H Q a sd q =>
  h R F σ H _ a sd fun A1 out F1 H1 hk e1 a1 => q A1 _ _ F1 H1 hk e1 a1 (.str _)
end
/-! ### a star among the targets of a list -/
section
variable {prog : Program} {w : World} {A : Around} {E : Value → Shared → Prop} {s : Shared}
theorem walk_fromL (hh : A.handled = none) (I ax : Addr) (hne : ax ≠ I) (items : Array Value) (i0 : Nat) (hi0 : i0 ≤ items.size) :
    Walks prog w A I [I, ax] [I] (items.size - i0) (fun j v => items[i0 + j]? = some v) (fun j h => h.IsListIter I ax (i0 + j) ∧ h.IsList ax items) where
  sub := fun b hb => by simp at hb; simp [hb]
  frame := fun _ _ _ st hk => ⟨st.1.at fun o e => hk I (by simp) o e, st.2.at fun o e => hk ax (by simp) o e⟩
  item := fun i s Q E hi st hQ => by
    have hlt : i0 + i < items.size := by omega
    refine wpAny_pyNext_list_item st.1 st.2 (x := items[i0 + i]) (by simp [hlt]) fun h' hit' hs' => ?_
    exact hQ _ h' s.toks (by simp [hlt]) ⟨hit', st.2.extBut hs'.extBut hne⟩ fun b o hb e => hs'.extBut b o (fun h => hb (by simp [h])) e
  done := fun s Q E st hQ => wpAny_pyNext_list_end hh st.1 st.2 (by rw [Array.getElem?_eq_none]; omega) fun h' he' => hQ h' s.toks fun b o hb e => he' b o (fun h => hb (by simp [h])) e
  self := fun _ _ _ _ st hQ => wpAny_pyIter_listiter st.1 hQ
theorem draw_listL {it t : Addr} {items : Array Value} (hne : t ≠ it) : ∀ (n i : Nat) (s : Shared) (Q : List Value → Shared → Prop), s.heap.IsListIter it t i → s.heap.IsList t items → i + n ≤ items.size →
    (∀ h', Heap.IsListIter h' it t (i + n) → Heap.SameBut it s.heap h' → Q ((items.toList.drop i).take n) { s with heap := h' }) → wpAny (model prog w) A (draw (.ref it) n) Q E s
  | 0, i, s, Q, hit, _, _, hQ => by
    show wpAny _ _ (pure []) Q E s
    exact wpAny_pure (by simpa using hQ s.heap hit (Heap.SameBut.refl ..))
  | n + 1, i, s, Q, hit, ht, hle, hQ => by
    have hlt : i < items.size := by omega
    show wpAny _ _ (pyNext (.ref it) >>= _) Q E s
    refine wpAny_bind (wpAny_pyNext_list_item hit ht (x := items[i]) (by simp [hlt]) fun h₁ hit₁ hs₁ => ?_)
    refine wpAny_bind (wpAny_holding (draw_listL hne n (i + 1) _ _ hit₁ (ht.extBut hs₁.extBut hne) (by omega) fun h₂ hit₂ hs₂ => wpAny_pure ?_))
    have hd : items.toList.drop i = items[i] :: items.toList.drop (i + 1) := by simp [List.drop_eq_getElem_cons, hlt]
    have := hQ h₂ (by rw [show i + (n + 1) = i + 1 + n by omega]; exact hit₂) (hs₁.trans hs₂)
    rw [hd, List.take_succ_cons] at this
    exact this
theorem unpack_starL {t : Addr} {items : Array Value} {i m : Nat} {Q : List Value → Shared → Prop} (hh : A.handled = none) (ht : s.heap.IsList t items) (hi : i + m ≤ items.size) (hz : items.size ≤ sizeLine)
    (hQ : ∀ (h' : Heap) (tk : Nat), (∀ b o, s.heap.get? b = some o → h'.get? b = some o) → Q (items.toList.take i ++ [.ref h'.objs.size] ++ items.toList.drop (items.size - m)) { s with heap := h'.push { cls := .type "list", data := .seq ((items.toList.drop i).take (items.size - m - i)).toArray }, toks := tk }) :
    wpAny (model prog w) A (unpackItems (.ref t) (i + 1 + m) (some i)) Q E s := by
  have hlt : t < s.heap.objs.size := by obtain ⟨o, ho, _⟩ := ht; exact Heap.lt_size ho
  have hne : t ≠ s.heap.objs.size := Nat.ne_of_lt hlt
  unfold unpackItems
  refine wpAny_bind ?_
  unfold notIterableAtAll
  refine wpAny_bind (wpAny_specialOf ht.typeIs slot_list_iter.lookup ?_)
  refine wpAny_pure ?_
  simp only [Bool.false_eq_true, if_false]
  refine wpAny_bind (wpAny_holding (wpAny_pyIter_list ht ?_))
  refine wpAny_bind (wpAny_holding (draw_listL hne i 0 _ _ ⟨_, Heap.get?_push_size _ rfl, rfl, rfl⟩ (ht.push _) (by omega) fun h₁ hit₁ hs₁ => ?_))
  have ht₁ : Heap.IsList h₁ t items := (ht.push _).extBut hs₁.extBut hne
  have hl1 : (List.take i (List.drop 0 items.toList)).length = i := by
    rw [List.drop_zero, List.length_take, Array.length_toList]
    omega
  rw [if_neg (by rw [hl1]; omega)]
  have hsz : h₁.objs.size = s.heap.objs.size + 1 := by
    rw [hs₁.1]
    exact Heap.size_push ..
  have hit₂ : Heap.IsListIter h₁ s.heap.objs.size t (i + 0) := by rw [Nat.add_comm]; exact hit₁
  refine wpAny_bind (wpAny_holding (wpAny_collect_iter (T := "list_iterator") (.inr (.inr (.inl rfl))) (walk_fromL (A := A.in1) (prog := prog) (w := w) hh s.heap.objs.size t hne items i (by omega)).toS
    (fun j s' st => st.1.typeIs) ⟨hit₂, ht₁⟩ (fun b hb => ?_) (by simp) (fun s' acc hm hacc => ?_) (by omega)))
  · show b < h₁.objs.size
    rw [hsz]
    simp only [List.mem_cons, List.not_mem_nil, or_false] at hb
    rcases hb with rfl | rfl
    · exact Nat.lt_succ_self _
    · exact Nat.lt_succ_of_lt hlt
  have hacc' : acc.toList = items.toList.drop i := by
    apply List.ext_getElem?
    intro j
    by_cases hj : j < acc.size
    · have h1 : acc[j]? = some acc[j] := Array.getElem?_eq_getElem hj
      have h2 := hacc.2 j _ h1
      rw [Array.getElem?_toList, h1, List.getElem?_drop, Array.getElem?_toList]
      exact h2.symm
    · have h1 := hacc.1
      rw [List.getElem?_eq_none (by rw [Array.length_toList]; omega), List.getElem?_eq_none (by rw [List.length_drop, Array.length_toList]; omega)]
  rw [hacc']
  have h0 : i + 1 + m - 1 - i = m := by omega
  simp only [h0]
  have hdl : (items.toList.drop i).length = items.size - i := by rw [List.length_drop, Array.length_toList]
  rw [if_neg (by rw [hdl]; omega)]
  rw [hdl, List.drop_drop]
  have e5 : i + (items.size - i - m) = items.size - m := by omega
  have e6 : items.size - i - m = items.size - m - i := by omega
  rw [e5, e6]
  obtain ⟨hp, gg, dd, tk, os⟩ := s'
  have e1 : gg = s.gens := hm.gens
  have e2 : dd = s.drawn := hm.drawn
  have e3 : os = s.os := hm.os
  subst e1 e2 e3
  have keep : ∀ b o, s.heap.get? b = some o → hp.get? b = some o := fun b o e => by
    have hb : b ≠ s.heap.objs.size := Nat.ne_of_lt (Heap.lt_size e)
    exact hm.heap b o (by simp only [List.mem_cons, List.not_mem_nil, or_false]; exact hb) (hs₁.extBut b o hb (Heap.get?_push_of_some _ e))
  refine wpAny_bind (wpAny_newObj_type ?_ (by show ((items.toList.drop i).take (items.size - m - i)).toArray.size ≤ sizeLine; rw [List.size_toArray, List.length_take, hdl]; omega))
  rw [List.drop_zero] at *
  refine wpAny_pure ?_
  have := hQ hp tk keep
  simpa using this
end
/-- a, *b, c = a list of at least n + m items, n ahead of the star, m behind -/
def gLstS (K : PySem.W.Frag) (n m : Nat) (t : TGs) : TG := fun v σ H Q => ∃ a xs, v = .ref a ∧ SqL K H a xs ∧ n + m ≤ xs.length ∧ ∀ D, H D = none → t (xs.take n ++ [.ref D] ++ xs.drop (xs.length - m)) σ (upd H D (.lst ((xs.drop n).take (xs.length - m - n)))) Q
theorem pgs_star {X : Cx} {e : Expr} {es : List Expr} {p : Pos} {t : TG} {ts : TGs} (h : PG X e t) (hr : PGs X es ts) : PGs X (.Starred e p :: es) (gCons t ts) := by
  refine ⟨fun pins s σ H vs us Q I r hw => ?_⟩
  obtain ⟨v, vr, e1, hw⟩ := hw
  subst e1
  cases r with
  | cons r rr =>
    show wpAny _ _ (assignInOrder (assign e X.env :: _) _) _ _ _
    refine assignInOrder_cons (thn (h.run pins s σ H _ _ _ I r hw) fun _ s1 ⟨σ1, H1, I1, q1⟩ => ?_)
    exact hr.run pins s1 σ1 H1 _ _ Q I1 rr q1
theorem pg_lstS {X : Cx} {es : List Expr} {k : Nat} {pos : Pos} {t : TGs} (n m : Nat) (hc : X.calm = true) (h : PGs X es t)
    (hn : (assignEach es X.env).length = n + 1 + m := by rfl) (hst : (assignEach es X.env).findIdx? (·.1) = some n := by rfl) : PG X (.Tuple es k pos) (gLstS X.K n m t) := by
  refine ⟨fun pins s σ H v u Q I r hw => ?_⟩
  obtain ⟨a, xs, e1, hq, hl, hw⟩ := hw
  subst e1
  cases r
  obtain ⟨its, rv, pl, hz⟩ := I.list hq
  have ht : s.heap.IsList a its.toArray := by
    obtain ⟨o, m, e, c, d, q⟩ := pl
    exact ⟨o, e, c, m, q⟩
  have hlen := rv.length
  rw [assign_Tuple]
  refine wpAny_bind (wpAny_standAt ?_)
  unfold unpack
  rw [hn, hst]
  refine wpAny_bind (wpAny_holding (unpack_starL (m := m) (I.ok.hd hc) ht (by rw [List.size_toArray]; omega) (by rw [List.size_toArray]; omega) fun h' tk hk => ?_))
  have I1 : Inv X pins σ H { s with heap := h', toks := tk } := I.kept hk
  have hf := I1.hok.fresh (Nat.le_refl _)
  have e7 : its.toArray.size = xs.length := by rw [List.size_toArray, hlen]
  have I2 := I1.laid (t' := tk) (a := h'.objs.size) (o := .lst ((xs.drop n).take (xs.length - m - n))) (h' := h'.push { cls := .type "list", data := .seq ((its.drop n).take (its.toArray.size - m - n)).toArray }) (fun b o e => Heap.get?_push_of_some _ e) (Nat.le_refl _) ⟨by rw [List.length_take, List.length_drop]; omega, (its.drop n).take (its.toArray.size - m - n), 0, by rw [e7]; exact Vals.take _ (Vals.drop n rv), Heap.get?_push_size _ rfl⟩
  refine h.run pins _ σ _ _ _ Q I2 ?_ (hw _ hf)
  rw [e7]
  exact Vals.append (Vals.append (by simpa using Vals.take n rv) (.cons rfl .nil)) (by simpa using Vals.drop (xs.length - m) rv)
theorem pg_lstSK (K : PySem.W.Frag) {X : Cx} {es : List Expr} {k : Nat} {pos : Pos} {t : TGs} (n m : Nat) (hc : X.calm = true) (h : PGs X es t)
    (hn : (assignEach es X.env).length = n + 1 + m := by rfl) (hst : (assignEach es X.env).findIdx? (·.1) = some n := by rfl) (hK : X.K = K := by rfl) : PG X (.Tuple es k pos) (gLstS K n m t) := hK ▸ pg_lstS n m hc h hn hst
theorem gw_lstS {K : PySem.W.Frag} {A : Amb} {S : List SV} {n m : Nat} {u : TGs} {ds : List PyData} {k : KS} (hn : n + m ≤ ds.length) (h : GWs K u ((ds.take n ++ [PyData.list ((ds.drop n).take (ds.length - m - n))] ++ ds.drop (ds.length - m)).map SV.dat) S A k) : GW K (gLstS K n m u) (.dat (.list ds)) S A k := fun R F σ H v Q a sd r q => by
  obtain ⟨p, xs, rfl, h1, h2⟩ := sr_lst r
  have el := h2.length
  rw [← el] at h hn
  refine ⟨p, xs, rfl, .inl (.inl (a.same _ _ h1)), hn, fun D hD => ?_⟩
  obtain ⟨a2, e2⟩ := a.alloc (o := .lst ((xs.drop n).take (xs.length - m - n))) hD
  refine h R _ σ _ _ Q a2 (sd.mono e2) ?_ (q.mono e2)
  rw [List.map_append, List.map_append]
  exact papp (papp (dats_srs ((h2.take n).mono e2)) (.cons (show SR K _ (.ref D) (.dat (.list ((ds.drop n).take (xs.length - m - n)))) from .lst upd_same (((h2.drop n).take _).mono e2)) .nil)) (dats_srs ((h2.drop _).mono e2))
end DL

/-! The data layer: == by an own __eq__ of two instances of one class. -/
namespace DL
open PySem L2
/-- x == y, both of the class at C, by its own __eq__ -/
def rOwnI (C : Addr) (sp : Sp) (E : XK) : R2 := fun x y H Q => ∃ a dx fs b dy gs, x = .ref a ∧ y = .ref b ∧ H a = some (.ins C dx fs) ∧ H b = some (.ins C dy gs) ∧ sp [x, y] H Q E
theorem op_ownI {X : Cx} {CX : CXT} {k : Nat} {C f : Addr} {fd : FuncData} {ps : List Str} {sp : Sp} {E : XK} (hm : Meth X.K C "__eq__" f) (nf : PySem.W.notFirst X.K C (.ref C) = true) (F : FnOk X.prog X.w X.K X.mg X.base CX k f fd ps sp)
    (hr : Room k X.A) (hb : Binds X.K fd ps []) (hx : Passes CX X E) : OpR X (compareOp .Eq) (rOwnI C sp E) := by
  intro pins s σ H x y v u Q I rx ry h
  obtain ⟨a, dx, fs, b, dy, gs, rfl, rfl, ha, hb', q⟩ := h
  cases (show v = Value.ref a from rx)
  cases (show u = Value.ref b from ry)
  obtain ⟨mA, O, _⟩ := ins_get I.hok ha
  obtain ⟨mB, O', _⟩ := ins_get I.hok hb'
  obtain ⟨od, J, _⟩ := O.look
  obtain ⟨od', J', _⟩ := O'.look
  obtain ⟨m, hF⟩ := I.fr
  show wpAny _ _ (richCompare .Eq (.ref a) (.ref b)) _ _ _
  refine PySem.W.cmp_K (op := .Eq) (tb := .ref C) hr.units0 hF I.ok.mod.kin J J'.type nf hm.at_ hm.fn ?_
  refine wpAny_mono (run_fn (us := [.ref a, .ref b]) (vs := [.ref a, .ref b]) F hr hb .nil hx I (.cons rfl (.cons rfl .nil)) q) (fun w s' z => ?_) fun _ _ x => x
  obtain ⟨z', H', I', rz, qz⟩ := z
  exact SlX.cmpback rz ⟨z', H', I', rz, qz⟩
def rIsC (C : Addr) : List V → Hp → VK → Prop := fun xs H Q => ∃ a dx fs, xs = [.ref a, .ref C] ∧ H a = some (.ins C dx fs) ∧ Q (.bl true) H
theorem call_isCW {X : Cx} {C : Addr} (c : C8.InsC X.K C) : CallR X (.builtin "isinstance") (rIsC C) := C8.call_isC c
section
variable {K : PySem.W.Frag} {A : Amb} {k : KA} {C : Addr} {W : List SV → Amb → KA → Prop} {EX : XK}
theorem rw_ownI {p q dx dy : Addr} {fs gs : List (Str × SV)} (hp : (p, .ins C dx fs) ∈ A.cells) (hq : (q, .ins C dy gs) ∈ A.cells) (h : W [.ptr p, .ptr q] A k) : RW K (rOwnI C (spW K W) EX) (.ptr p) (.ptr q) A k := fun R F H v w Q a r1 r2 qq => by
  obtain rfl : v = .ref p := r1
  obtain rfl : w = .ref q := r2
  obtain ⟨_, _, vs, h1, _⟩ := At.cell a p _ (List.mem_append_left _ hp)
  obtain ⟨_, _, us, h3, _⟩ := At.cell a q _ (List.mem_append_left _ hq)
  exact ⟨p, dx, vs, q, dy, us, rfl, rfl, h1, h3, A, R, F, _, k, a, .cons (show SR K F (.ref p) (.ptr p) from rfl) (.cons (show SR K F (.ref q) (.ptr q) from rfl) .nil), h, qq⟩
/-- isinstance(x, C), x an instance of the class at C -/
theorem wp_isC {S : List SV} {te : TE} (h : Wp K A te S fun A1 s => ∃ p dx fs, s = .ptr p ∧ (p, .ins C dx fs) ∈ A1.cells ∧ k A1 (.dat (.bool true))) : Wp K A (tCB (rIsC C) (tCons te (tCons (tC (.ref C)) tNil))) S k := fun R F σ H Q a sd q =>
  h R F σ H _ a sd fun A1 s v F1 H1 ⟨p, dx, fs, hs, hp, hk⟩ e1 a1 r1 => by
    subst hs
    obtain rfl : v = .ref p := r1
    obtain ⟨_, _, vs, h1, _⟩ := At.cell a1 p _ (List.mem_append_left _ hp)
    exact ⟨p, dx, vs, rfl, h1, q A1 _ _ F1 H1 hk e1 a1 (.bl _)⟩
end
/-- o.m(e, ..) of a built-in's method, within a comprehension too -/
theorem pe_bmK (K : PySem.W.Frag) {X : Cx} {o e : Expr} {es : List Expr} {to : TE} {t : TA} {name : Str} {apos cpos : Pos} {T id : String} {r : V → List V → Hp → VK → Prop} (pa : PlainAttrs T) (slot : Slot T name id) (hty : typeOf (.builtin id) = pure (.type "method_descriptor")) (hm : MtR X id r) (ho : PE X o to) (ha : PA X (e :: es) t)
    (hbase : attributeBase o name X.env (eval o X.env) = eval o X.env := by rfl)
    (hfew : ((backTo cpos (starEach (e :: es) X.env)).all (fun x => !x.1) && (backToKw cpos (keywordEach [] X.env)).all (fun x => x.1.isSome)
      && decide ((e :: es).length + ([] : List Keyword).length + (if ([] : List Keyword).isEmpty then 0 else 1) < 30)) = true := by rfl)
    (hline : (apos.endLine == cpos.line) = true := by rfl) (hs : starEach (e :: es) X.env = (false, eval e X.env) :: starEach es X.env := by rfl) (hplain : (backTo cpos (starEach es X.env)).any (·.1) = false := by rfl) (hK : X.K = K := by rfl) :
    PE X (.Call (.Attribute o name apos) (e :: es) [] cpos) (tBM K T r to t) := hK ▸ pe_bm pa slot hty hm ho ha hbase hfew hline hs hplain
theorem kit_self {K : PySem.W.Frag} {C : Addr} : PySem.W.kitOne K (.ref C) (.ref C) = some true := by
  unfold PySem.W.kitOne
  rw [if_pos]
  first | exact beq_self_eq_true _ | simp | rfl | decide
end DL

/-! Sets of texts, some of them twice: set(xs), sorted(set(xs)). -/
namespace DL
open PySem L2 RZ PyProof.Rows PySem.Spec
open Sem (wp)
def keyS (e : Int × Value) : Str := match e.2 with | .str k _ => k | _ => Str.empty
def GoodS (w : World) (e : Int × Value) : Prop := ∃ k tk, e.2 = Value.str k tk ∧ e.1 = hashStr w k
/-- the set at a holds just the texts of L -/
def SetS (w : World) (h : Heap) (a : Addr) (L : List Str) : Prop :=
  ∃ o es ep t, h.get? a = some o ∧ o.ExactSet ∧ o.data = .set es ep t ∧ (∀ e ∈ es.toList, GoodS w e) ∧ (es.toList.map keyS).Nodup ∧ (∀ k, k ∈ L ↔ k ∈ es.toList.map keyS) ∧
    es.size ≤ L.length ∧ t.fits es.size = true ∧ Ris t.place.toList ∧ (w.params.followText "set-order" = true ∨ t.led = true)
section
variable {P : Program} {w : World} {h h' : Heap} {a : Addr} {L : List Str}
theorem SetS.at (R : SetS w h a L) (k : ∀ o, h.get? a = some o → h'.get? a = some o) : SetS w h' a L := by
  obtain ⟨o, es, ep, t, ho, r⟩ := R
  exact ⟨o, es, ep, t, k o ho, r⟩
theorem SetS.congr {L' : List Str} (R : SetS w h a L) (e : ∀ k, k ∈ L' ↔ k ∈ L) (hl : L.length ≤ L'.length) : SetS w h a L' := by
  obtain ⟨o, es, ep, t, ho, hx, hd, g, nd, hm, hb, r⟩ := R
  exact ⟨o, es, ep, t, ho, hx, hd, g, nd, fun k => (e k).trans (hm k), Nat.le_trans hb hl, r⟩
theorem goodS_elems {l : List (Int × Value)} (g : ∀ e ∈ l, GoodS w e) : ElemsOf (strKind P w) l := fun e he => by
  obtain ⟨k, tk, h1, h2⟩ := g e he
  exact ⟨⟨k, by rw [h1]; exact strKind_is P w k tk, h2⟩, by rw [h1] <;> rfl⟩
theorem goodS_is {e : Int × Value} (g : GoodS w e) (k : Str) : (strKind P w).is k e.2 = true ↔ keyS e = k := by
  obtain ⟨k0, tk, h1, _⟩ := g
  unfold keyS
  rw [h1]
  constructor
  · intro z
    exact (strKind P w).inj (.str k0 tk) k0 k (strKind_is P w k0 tk) z
  · rintro rfl
    exact strKind_is P w _ tk
theorem goodS_mem {l : List (Int × Value)} (g : ∀ e ∈ l, GoodS w e) (k : Str) : k ∈ l.map keyS ↔ ∃ e ∈ l, (strKind P w).is k e.2 = true := by
  rw [List.mem_map]
  constructor
  · rintro ⟨e, he, q⟩
    exact ⟨e, he, (goodS_is (g e he) k).2 q⟩
  · rintro ⟨e, he, q⟩
    exact ⟨e, he, (goodS_is (g e he) k).1 q⟩
end
section
variable {P : Program} {w : World} {A : Around} {E : Value → Shared → Prop} {s : Shared} {a : Addr} {L : List Str}
theorem setS_add_tail {g : Bool → Sem Unit} (hg : ∀ (b : Bool) (s₁ : Shared) (Q' : Unit → Shared → Prop), Q' () s₁ → wpAny (model P w) A (g b) Q' E s₁)
    {o : Obj} {es : Array (Int × Value)} {ep : Nat} {t : SetTable} (ho : s.heap.get? a = some o) (hex : o.ExactSet) (hd : o.data = .set es ep t)
    {es1 : Array (Int × Value)} {t2 : SetTable} {L' : List Str} (g1 : ∀ e ∈ es1.toList, GoodS w e) (nd1 : (es1.toList.map keyS).Nodup) (m1 : ∀ k, k ∈ L' ↔ k ∈ es1.toList.map keyS)
    (hb1 : es1.size < scanBound) (hn1 : es1.size ≤ L'.length) (hf2 : t2.fits es1.size = true) (hr : Ris t2.place.toList) (hl : w.params.followText "set-order" = true ∨ t2.led = true) {wasDummy : Bool} {R : Option Bool → Shared → Prop}
    (hR : ∀ h', Heap.SameBut a s.heap h' → SetS w h' a L' → R (some true) { s with heap := h' }) :
    wpAny (model P w) A (do
        storeSet a es1 t2
        if (!wasDummy && t2.tooFull) = true then do
            g (relayAll t2 es1 (SetTable.grown es1.size)).2.2
            storeSet a (relayAll t2 es1 (SetTable.grown es1.size)).1 (relayAll t2 es1 (SetTable.grown es1.size)).2.1
            pure (some true)
          else pure (some true)) R E s := by
  refine wpAny_bind (wpAny_storeSet_of ho hd ?_ (fits_of_scanBound hb1))
  have ho1 := store_at (es' := es1) (t' := t2) ho hd
  have sb1 := Heap.SameBut.update s.heap a (Obj.putSet es1 t2)
  split
  · have pm := relayAll_perm t2 es1 (SetTable.grown es1.size)
    have hf3 := relayAll_fits t2 es1 (SetTable.grown es1.size)
    have hr3 := relayAll_ris t2 es1 (SetTable.grown es1.size)
    have hl3 := relayAll_led t2 es1 (SetTable.grown es1.size)
    generalize relayAll t2 es1 (SetTable.grown es1.size) = Z at pm hf3 hr3 hl3 ⊢
    obtain ⟨es2, t3, gave⟩ := Z
    dsimp only at pm hf3 hr3 hl3 ⊢
    have hsz : es2.size = es1.size := by rw [← Array.length_toList, pm.length_eq, Array.length_toList]
    have hb2 : es2.size < scanBound := by rw [hsz]; exact hb1
    refine wpAny_bind (hg _ _ _ ?_)
    refine wpAny_bind (wpAny_storeSet_of ho1 rfl ?_ (fits_of_scanBound hb2))
    have ho2 := store_at (es' := es2) (t' := t3) ho1 rfl
    refine wpAny_pure (hR _ (sb1.trans (Heap.SameBut.update _ a _)) ?_)
    exact ⟨_, es2, _, t3, ho2, hex, rfl, fun e he => g1 e (pm.mem_iff.mp he), (pm.map keyS).nodup_iff.mpr nd1, fun k => (m1 k).trans (pm.map keyS).mem_iff.symm, by rw [hsz]; exact hn1, hf3, hr3,
      hl.imp id fun z => by rw [hl3]; exact z⟩
  · exact wpAny_pure (hR _ sb1 ⟨_, es1, _, t2, ho1, hex, rfl, g1, nd1, m1, hn1, hf2, hr, hl⟩)

theorem setS_add_hashed {k : Str} {tk : Tok} {Q : Bool → Shared → Prop} (R : SetS w s.heap a L) (room : L.length + 1 < scanBound)
    (hQ : ∀ b h', Heap.SameBut a s.heap h' → SetS w h' a (k :: L) → Q b { s with heap := h' }) :
    wpAny (model P w) A (setAddHashed a (.str k tk) ((strKind P w).hash k)) Q E s := by
  obtain ⟨o, es, ep, t, ho, hex, hd, g, nd, hm, hn, hf, hr, hl⟩ := R
  have hb : es.size < scanBound := by omega
  have hkey : (strKind P w).is k (.str k tk) = true := strKind_is P w k tk
  have hsc : (Value.str k tk).scannable = true := rfl
  have hel : ElemsOf (strKind P w) es.toList := goodS_elems g
  unfold setAddHashed setAddHashedIn
  refine wpAny_holding (wpAny_bind (wpAny_setState_of ho hd hf ?_))
  dsimp only
  rw [byScan_of hsc hb hel]
  simp only [↓reduceIte]
  unfold setAddByScan
  refine wpAny_bind ?_
  refine wpAny_bind (wpAny_rule ?_)
  refine wpAny_bind (wpAny_setScan_of hkey ho hd hf hel ?_)
  cases hfi : List.findIdx? (fun e => (strKind P w).is k e.2) es.toList with
  | some j =>
    dsimp only
    obtain ⟨hj, pj, _⟩ := List.findIdx?_eq_some_iff_getElem.mp hfi
    have hSk : k ∈ L := (hm k).2 ((goodS_mem (P := P) (w := w) g k).2 ⟨es.toList[j], List.getElem_mem hj, pj⟩)
    refine wpAny_pure (wpAny_pure ?_)
    exact hQ _ s.heap (Heap.SameBut.refl a s.heap) ⟨o, es, ep, t, ho, hex, hd, g, nd, fun i => by
      rw [List.mem_cons, ← hm i]
      exact ⟨fun z => z.elim (fun e => e ▸ hSk) id, .inr⟩, by rw [List.length_cons]; omega, hf, hr, hl⟩
  | none =>
    dsimp only
    have hnk : k ∉ es.toList.map keyS := fun z => by
      obtain ⟨e, he, q⟩ := (goodS_mem (P := P) (w := w) g k).1 z
      have c := List.findIdx?_eq_none_iff.mp hfi e he
      rw [q] at c
      cases c
    have hgw : ∀ (b : Bool) {s₁ : Shared} {Q' : Unit → Shared → Prop}, Q' () s₁ → wpAny (model P w) A (match b with | true => rule "set.scan.the-table-gave-way" | false => pure ()) Q' E s₁ :=
      fun b s₁ Q' q => by cases b <;> first | exact wpAny_pure q | exact wpAny_rule q
    have pm := layNew_perm t es ((strKind P w).hash k) (.str k tk)
    have hf1 := layNew_fits t es ((strKind P w).hash k) (.str k tk)
    have hr1 := layNew_ris t es ((strKind P w).hash k) (.str k tk) hr
    have hl1 := layNew_led t es ((strKind P w).hash k) (.str k tk)
    generalize layNew t es ((strKind P w).hash k) (.str k tk) = Z at pm hf1 hr1 hl1 ⊢
    obtain ⟨es1, t1, wasDummy, gave⟩ := Z
    dsimp only at pm hf1 hr1 hl1 ⊢
    rw [Array.toList_push] at pm
    have pc : es1.toList.Perm (((strKind P w).hash k, Value.str k tk) :: es.toList) := pm.trans (List.perm_append_singleton _ _)
    have pk : (es1.toList.map keyS).Perm (k :: es.toList.map keyS) := pc.map keyS
    have g1 : ∀ e ∈ es1.toList, GoodS w e := fun e he => by
      rcases List.mem_cons.mp (pc.mem_iff.mp he) with z | z
      · rw [z]; exact ⟨k, tk, rfl, rfl⟩
      · exact g e z
    have nd1 : (es1.toList.map keyS).Nodup := pk.nodup_iff.mpr (List.nodup_cons.mpr ⟨hnk, nd⟩)
    have m1 : ∀ i, i ∈ k :: L ↔ i ∈ es1.toList.map keyS := fun i => by
      rw [pk.mem_iff, List.mem_cons, List.mem_cons, hm i]
    have hsz : es1.size = es.size + 1 := by rw [← Array.length_toList, pc.length_eq, List.length_cons, Array.length_toList]
    have hb1 : es1.size < scanBound := by rw [hsz]; omega
    have hn1 : es1.size ≤ (k :: L).length := by rw [hsz, List.length_cons]; omega
    have hled : w.params.followText "set-order" = true ∨ t1.led = true := hl.imp id fun z => by rw [hl1]; exact z
    have fin : ∀ h', Heap.SameBut a s.heap h' → SetS w h' a (k :: L) → Q true { s with heap := h' } := fun h' sb r => hQ _ h' sb r
    refine wpAny_bind (hgw _ ?_)
    split
    · refine wpAny_bind ?_
      rw [hashByValue_scannable 8 hsc]
      refine wpAny_pure ?_
      refine setS_add_tail ?_ ho hex hd g1 nd1 m1 hb1 hn1 ?_ ?_ ?_ ?_
      · intro b s₁ Q' q; cases b <;> first | exact wpAny_pure q | exact wpAny_rule q
      · first | (split <;> first | exact hf1 | exact SetTable.fits_plain_off hf1) | exact hf1
      · first | (split <;> exact hr1) | exact hr1
      · first | (split <;> exact hled) | exact hled
      · intro h' sb r; dsimp only; exact wpAny_pure (fin h' sb r)
    · refine wpAny_bind (wpAny_pure ?_)
      simp only [↓reduceIte]
      refine setS_add_tail ?_ ho hex hd g1 nd1 m1 hb1 hn1 hf1 hr1 hled ?_
      · intro b s₁ Q' q; cases b <;> first | exact wpAny_pure q | exact wpAny_rule q
      · intro h' sb r; dsimp only; exact wpAny_pure (fin h' sb r)
end
section
variable {prog : Program} {w : World} {A : Around} {R : Result → Shared → Prop} {I : Addr} {fp wr : List Addr} {G : Array GenState → Array GenState → Prop} {n : Nat} {P : Nat → Value → Prop} {St : Nat → Shared → Prop}
theorem loop_textsS (W : WalksS prog w A.in1 I fp wr G n P St) (S : Addr) (hSf : S ∉ fp) (xs : List Str) (hsz : xs.length = n) (hn1 : n < 1000)
    (hval : ∀ i v, P i v → ∃ t, v = .str (xs.getD i Str.empty) t) :
    ∀ (k i : Nat) (s : Shared), n - i = k → i ≤ n → St i s → SetS w s.heap S (xs.take i) →
      (∀ s', Moved (S :: wr) G s s' → SetS w s'.heap S (xs.take n) → R (.ok (.ret .none)) s') →
      codeAny (model prog w) A (.builtin "set.update.loop" ⟨[.ref S, .ref I], []⟩) R s := by
  have hSw : S ∉ wr := fun h => hSf (W.sub _ h)
  have hsub : ∀ b ∈ wr, b ∈ S :: wr := fun b hb => List.mem_cons_of_mem _ hb
  intro k
  induction k with
  | zero =>
    intro i s hk hi hst hS hR
    have hin : i = n := by omega
    subst hin
    refine codeAny_builtin PyProof.Rows.F.entry_set_update_loop ?_
    rw [Around.under_plainId PyProof.Rows.F.plain_set_update_loop _]
    show wpAny _ A.in1 (pyNext (.ref I) >>= _) _ _ s
    refine wpAny_bind (W.done s _ _ hst fun s' hm => ?_)
    show wpAny _ A.in1 (ret Value.none) _ _ s'
    exact wpAny_pure (hR s' (hm.mono hsub) (hS.at fun o ho => hm.heap S _ hSw ho))
  | succ k ih =>
    intro i s hk hi hst hS hR
    have hlt : i < n := by omega
    refine codeAny_builtin PyProof.Rows.F.entry_set_update_loop ?_
    rw [Around.under_plainId PyProof.Rows.F.plain_set_update_loop _]
    show wpAny _ A.in1 (pyNext (.ref I) >>= _) _ _ s
    refine wpAny_bind (W.item i s _ _ hlt hst fun v s' hP hst' hm => ?_)
    obtain ⟨t, rfl⟩ := hval i v hP
    have hS' : SetS w s'.heap S (xs.take i) := hS.at fun o ho => hm.heap S _ hSw ho
    have hx : xs[i]? = some (xs.getD i Str.empty) := by
      rw [List.getD_eq_getElem?_getD, List.getElem?_eq_getElem (by omega)]
      rfl
    show wpAny _ A.in1 (holding [Value.str (xs.getD i Str.empty) t] (setAdd S (.str (xs.getD i Str.empty) t)) >>= _) _ _ s'
    refine wpAny_bind (wpAny_holding ?_)
    unfold setAdd
    refine wpAny_holding ?_
    refine wpAny_bind ((PySem.strKind prog w).pyHash (k := xs.getD i Str.empty) (strKind_is _ _ _ _) ?_)
    refine setS_add_hashed (P := prog) (s := { s' with toks := s'.toks + 1 }) hS' (by unfold scanBound; rw [List.length_take]; omega) fun b h' hsb hS2 => ?_
    have hSi : SetS w h' S (xs.take (i + 1)) := hS2.congr (fun k' => by
      rw [List.take_add_one, hx, List.mem_append, List.mem_cons]
      simp [or_comm]) (by rw [List.length_cons, List.length_take, List.length_take]; omega)
    refine wpAny_pure ⟨plainId_quiet PyProof.Rows.F.plain_set_update_loop _, ih (i + 1) _ (by omega) hlt (W.frame _ s' _ _ hst' (Nat.le_succ _) fun b hb o e => ?_) hSi fun s'' hm'' hS'' => ?_⟩
    · rw [hsb.2 b (fun h : b = S => hSf (by rw [← h]; exact hb))]; exact e
    · refine hR s'' (Moved.trans W.gtrans ((hm.mono hsub).then_heap (Nat.le_succ _) fun b o hb e => ?_) hm'') hS''
      rw [hsb.2 b (fun h : b = S => hb (by rw [h]; exact List.mem_cons_self))]; exact e
end
theorem setS_fresh (h : Heap) (w : World) : SetS w (h.push { cls := .type "set", dict := none, data := .set #[] 0 (.fresh 0 0 (!w.params.followText "set-order")) }) h.objs.size [] :=
  ⟨_, #[], 0, _, Heap.get?_push_size _ rfl, ⟨rfl, rfl, rfl⟩, rfl, (fun e he => by simp at he), (by simp), (fun k => by simp), (by simp), (by rfl), List.Pairwise.nil, by
    show _ ∨ (!w.params.followText "set-order") = true
    cases w.params.followText "set-order"
    · exact .inr rfl
    · exact .inl rfl⟩
section
variable {prog : Program} {w : World} {A : Around} {E : Value → Shared → Prop} {s : Shared}
theorem call_set_textsS {l : Addr} {items : Array Value} {xs : List Str} {Q : Value → Shared → Prop}
    (hh : A.handled = none) (hl : s.heap.IsList l items) (hi : PyProof.Rows.StrsAre items.toList xs) (hn1 : xs.length < 1000)
    (h : ∀ (h' : Heap) (tk : Nat), SetS w h' s.heap.objs.size xs →
      (∀ b o, b < s.heap.objs.size → s.heap.get? b = some o → h'.get? b = some o) → Q (.ref s.heap.objs.size) { s with heap := h', toks := tk }) :
    wpAny (model prog w) A (call (.type "set") [.ref l]) Q E s := by
  obtain ⟨c, tl, hmro⟩ := PySem.F.called_set.mro
  have hmade := PySem.F.called_set.made
  have hsub := PySem.F.called_set.sub
  refine wpAny_call (codeAny_of_tree ?_)
  show wpAny _ _ (callAny (.type "set") _) _ _ _
  refine wpAny_pure ⟨Code.quiet_builtin _ (by decide +kernel), codeAny_builtin PySem.F.entry_type_call ?_⟩
  rw [Around.under_plain (weight_type_call_type "set" [.ref l] []) rfl]
  have h1 := PySem.F.called_set.notType
  have h2 := PySem.F.called_set.canCreate
  have hct := PySem.F.typeCall_set_1 (.ref l)
  repeat (any_goals (first | assumption | wp_step))
  refine codeAny_mono (code_set_led1 (.ref l) (E := E) (Q₁ := fun obj s₁ => obj = .ref s.heap.objs.size ∧ s₁ = { s with heap := s.heap.push { cls := .type "set", dict := none, data := .set #[] 0 (.fresh 0 0 (!w.params.followText "set-order")) } }) ⟨rfl, rfl⟩) fun r s₁ hr => ?_
  cases r with
  | error e => exact hr
  | ok fl =>
    cases fl with
    | ret obj =>
      obtain ⟨rfl, rfl⟩ := hr
      have hSF := setS_fresh s.heap w
      generalize hled : (!w.params.followText "set-order") = led at hSF ⊢
      have hS : (s.heap.push { cls := .type "set", dict := none, data := .set #[] 0 (.fresh 0 0 led) }).get? s.heap.objs.size = some { cls := .type "set", dict := none, data := .set #[] 0 (.fresh 0 0 led) } := Heap.get?_push_size _ rfl
      have hT : Shared.TypeIs { s with heap := s.heap.push { cls := .type "set", dict := none, data := .set #[] 0 (.fresh 0 0 led) } } (.ref s.heap.objs.size) "set" := ⟨_, hS, rfl⟩
      have hli := PySem.F.called_set.init.lookup
      have hbi := PySem.F.called_set.init.bind (.ref s.heap.objs.size)
      repeat (any_goals (first | assumption | wp_step))
      refine codeAny_mono (codeAny_call_builtin (R := wants (fun r s₂ => r = .none ∧ ∃ h' tk, s₂ = { s with heap := h', toks := tk } ∧
          SetS w h' s.heap.objs.size xs ∧
          (∀ b o, b < s.heap.objs.size → s.heap.get? b = some o → h'.get? b = some o)) E) PySem.F.called_set.init.plain PySem.F.entry_set_init (check_set_init_1 hT ?_)) fun r₂ s₂ hr₂ => ?_
      · obtain ⟨ol, hol, hcl, nl, hdl⟩ := hl
        obtain ⟨ocls, odict, odata, oslots⟩ := ol
        simp only at hcl hdl
        subst hcl; subst hdl
        have hol' : (s.heap.push { cls := .type "set", dict := none, data := .set #[] 0 (.fresh 0 0 led) }).get? l = some { cls := .type "list", dict := odict, data := .seq items nl, slots := oslots } := Heap.get?_push_of_some _ hol
        have hsls := PySem.F.sub_list_set
        have hslf := PySem.F.sub_list_frozenset
        have hne : (Value.type "list" == Value.type "dict") = false := by decide
        have hl1 : (s.heap.push { cls := .type "set", dict := none, data := .set #[] 0 (.fresh 0 0 led) }).IsList l items := ⟨_, hol', rfl, nl, rfl⟩
        unfold Builtin.«set.__init__» noKeywords Builtin.Frozenset.updateFrom
        generalize hPI : pyIter = PI
        wp_walk
        subst hPI
        refine wpAny_pyIter_list hl1 ?_
        refine wpAny_bind (wpAny_runValue ?_)
        have hlS : l < s.heap.objs.size := Heap.lt_size hol
        have hh3 : A.in1.in1.in1.handled = none := by simp [hh]
        have hneI : l ≠ (s.heap.push { cls := .type "set", dict := none, data := .set #[] 0 (.fresh 0 0 led) }).objs.size := by
          rw [Heap.size_push]; exact Nat.ne_of_lt (Nat.lt_succ_of_lt hlS)
        have hSf : s.heap.objs.size ∉ [(s.heap.push { cls := .type "set", dict := none, data := .set #[] 0 (.fresh 0 0 led) }).objs.size, l] := by
          rw [Heap.size_push]; simp only [List.mem_cons, List.not_mem_nil, or_false, not_or]
          exact ⟨Nat.ne_of_lt (Nat.lt_succ_self _), Nat.ne_of_gt hlS⟩
        have hsz : xs.length = items.size := by rw [← StrsAre.len_eq hi, Array.length_toList]
        have hval : ∀ (i : Nat) (v : Value), items[i]? = some v → ∃ t, v = .str (xs.getD i Str.empty) t := fun i v hv => SS.strs_at hi i v (by rw [Array.getElem?_toList]; exact hv)
        refine loop_textsS ((Walks.list hh3 _ l hneI items).toS) s.heap.objs.size
          hSf xs hsz (by rw [← hsz]; exact hn1) hval (items.size - 0) 0 _ (by omega) (Nat.zero_le _)
          ⟨⟨_, Heap.get?_push_size _ rfl, rfl, rfl⟩, (hl1.push _)⟩ ?hS0 ?hR
        case hS0 =>
          exact hSF.at fun o ho => Heap.get?_push_of_some _ ho
        case hR =>
          intro s' hm hS'
          obtain ⟨h', g', d', tk', os'⟩ := s'
          have eg : g' = s.gens := hm.gens
          have ed : d' = s.drawn := hm.drawn
          have eo : os' = s.os := hm.os
          subst eg; subst ed; subst eo
          show wpAny _ _ _ _ _ _
          refine wpAny_pure ?_
          show wpAny _ _ (ret Value.none) _ _ _
          refine wpAny_pure ⟨rfl, h', tk', rfl, (by rw [← hsz, List.take_length] at hS'; exact hS'), fun b o hb e => ?_⟩
          have hb1 : b ≠ s.heap.objs.size := Nat.ne_of_lt hb
          have hb2 : b ≠ (s.heap.push { cls := .type "set", dict := none, data := .set #[] 0 (.fresh 0 0 led) }).objs.size := by
            rw [Heap.size_push]; exact Nat.ne_of_lt (Nat.lt_succ_of_lt hb)
          exact hm.heap b o (by simp only [List.mem_cons, List.not_mem_nil, or_false, not_or]; exact ⟨hb1, hb2⟩) (Heap.get?_push_of_some _ (Heap.get?_push_of_some _ e))
      · cases r₂ with
        | error e => exact hr₂
        | ok fl₂ =>
          cases fl₂ with
          | ret r =>
            obtain ⟨rfl, h', tk, rfl, hS', hk'⟩ := hr₂
            repeat (any_goals (first | assumption | wp_step))
            exact h _ _ hS' hk'
          | _ => exact hr₂.elim
    | _ => exact hr.elim
end
/-! ### sorted -/
def strVal (v : Value) : Str := match v with | .str k _ => k | _ => Str.empty
theorem each_strs {h : Heap} {a : Addr} : ∀ (l : List Value), (∀ v ∈ l, ∃ k tk, v = Value.str k tk) → PySem.W.EachIs (fun (v : Value) (b : Str) => ∃ tk, v = Value.str b tk) l (l.map strVal) ∧ PySem.W.EachIs (fun (v : Value) (b : Str) => ∃ as, Reads h v (PyData.str b) as ∧ a ∉ as) l (l.map strVal)
  | [], _ => ⟨.nil, .nil⟩
  | v :: l, h => by
    obtain ⟨k, tk, rfl⟩ := h v List.mem_cons_self
    obtain ⟨h1, h2⟩ := each_strs l fun u hu => h u (List.mem_cons_of_mem _ hu)
    exact ⟨.cons ⟨tk, rfl⟩ h1, .cons ⟨[], .str k tk, by simp⟩ h2⟩
theorem each_are : ∀ {l : List Value} {ks : List Str}, PySem.W.EachIs (fun (v : Value) (b : Str) => ∃ tk, v = Value.str b tk) l ks → PyProof.Rows.StrsAre l ks
  | _, _, .nil => .nil
  | _, _, .cons ⟨tk, e⟩ t => by subst e; exact .cons _ tk (each_are t)
section
variable {P : Program} {w : World} {A : Around} {E : Value → Shared → Prop} {s : Shared} {a : Addr} {L : List Str}
theorem sorted_setS {Q : Value → Shared → Prop} (R : SetS w s.heap a L) (hh : A.handled = none) (hu : A.units + 8 < cLine) (hL : L.length < 1000)
    (hQ : ∀ s' p (out : Array Value) (c : Nat) (ks : List Str), (∀ b o, s.heap.get? b = some o → s'.heap.get? b = some o) → s'.gens = s.gens → s'.os = s.os → s.heap.objs.size ≤ p →
      s'.heap.get? p = some (seqObj "list" out c) → PyProof.Rows.StrsAre out.toList ks → ks.Pairwise (fun x y => x.cps.toList < y.cps.toList) → (∀ k, k ∈ ks ↔ k ∈ L) → ks.length ≤ L.length → Q (.ref p) s') :
    wpAny (model P w) A (call (.builtin "sorted") [.ref a]) Q E s := by
  obtain ⟨o, es, ep, t, ho, hex, hd, g, nd, hm, hn, hf, hr, hl⟩ := R
  refine Calls.call_function_entry kind_sorted plain_sorted entry_sorted (args_sorted1 _) ?_
  unfold Builtin.«sorted»
  refine wpAny_bind (m := checkCount "sorted" 1 1 _) (wpAny_pure ?_)
  refine wpAny_bind (collect_set (A := A.in1) hh ⟨o, ho, hex.1, hd⟩ hf (by unfold scanBound; omega) hr hl fun s1 vs k1 hz g1 o1 pm => ?_)
  have hvl : vs.length = es.size := by rw [pm.length_eq, List.length_map, Array.length_toList]
  have hstr : ∀ v ∈ vs, ∃ k tk, v = Value.str k tk := fun v hv => by
    obtain ⟨e, he, q⟩ := List.mem_map.mp (pm.mem_iff.mp hv)
    obtain ⟨k, tk, h1, _⟩ := g e he
    exact ⟨k, tk, by rw [← q]; exact h1⟩
  have pk : (vs.map strVal).Perm (es.toList.map keyS) := by
    have q := pm.map strVal
    rw [List.map_map] at q
    exact q
  refine wpAny_bind (wpAny_newList ?_ (by rw [hvl, sizeLine_eq]; omega))
  have hoL : (s1.heap.push (seqObj "list" vs.toArray 0)).get? s1.heap.objs.size = some (seqObj "list" vs.toArray 0) := Heap.get?_push_size _ rfl
  obtain ⟨e1, e2⟩ := each_strs (h := s1.heap.push (seqObj "list" vs.toArray 0)) (a := s1.heap.objs.size) vs hstr
  refine wpAny_bind (wpAny_holding (PySem.W.list_sort_data (enc := PyData.str) hoL e1 e2 (PySem.W.AllAlike.of fun _ _ => by simp [PySem.W.alike]) (PySem.W.Sortable.others fun b => ⟨by simp, by simp⟩) (by rw [List.length_map, hvl, sizeLine_eq]; omega) (fun b hb => by show A.units + 1 + 1 + _ < cLine; simp only [PyData.depth]; omega) fun out h1 h2 => ?_))
  have a1 := each_are h2
  rw [PySem.W.dataLe_str] at a1
  have pn : ((vs.map strVal).mergeSort (fun x y => decide (x.cps.toList ≤ y.cps.toList))).Perm (es.toList.map keyS) := (List.mergeSort_perm _ _).trans pk
  have hpw : ((vs.map strVal).mergeSort (fun x y => decide (x.cps.toList ≤ y.cps.toList))).Pairwise (fun x y => x.cps.toList < y.cps.toList) := by
    have h3 : ((vs.map strVal).mergeSort (fun x y => decide (x.cps.toList ≤ y.cps.toList))).Pairwise (fun x y => decide (x.cps.toList ≤ y.cps.toList) = true) := by
      have ht : ∀ a b c : Str, decide (a.cps.toList ≤ b.cps.toList) = true → decide (b.cps.toList ≤ c.cps.toList) = true → decide (a.cps.toList ≤ c.cps.toList) = true := fun a b c h1 h2 => decide_eq_true (List.le_trans (of_decide_eq_true h1) (of_decide_eq_true h2))
      have hs : ∀ a b : Str, (decide (a.cps.toList ≤ b.cps.toList) || decide (b.cps.toList ≤ a.cps.toList)) = true := fun a b => by
        rcases List.le_total a.cps.toList b.cps.toList with h | h
        · rw [decide_eq_true h]; rfl
        · rw [decide_eq_true h, Bool.or_true]
      exact List.pairwise_mergeSort (le := fun x y : Str => decide (x.cps.toList ≤ y.cps.toList)) ht hs _
    refine List.Pairwise.imp₂ (fun x y h4 h5 => ?_) h3 (pn.nodup_iff.mpr nd)
    have h4 : x.cps.toList ≤ y.cps.toList := of_decide_eq_true h4
    by_cases h6 : x.cps.toList < y.cps.toList
    · exact h6
    · refine absurd ?_ h5
      have h7 := List.le_antisymm h4 (List.not_lt.mp h6)
      cases x with
      | mk x => cases y with
        | mk y => congr 1; exact Array.toList_inj.mp h7
  generalize (vs.map strVal).mergeSort (fun x y => decide (x.cps.toList ≤ y.cps.toList)) = ks at a1 pn hpw
  obtain ⟨c, hc⟩ := sortedHeap_at (vs := vs) (out := List.toArray out) hoL
  refine wpAny_pure ⟨_, rfl, hQ _ s1.heap.objs.size (List.toArray out) c ks (fun b u e => ?_) g1 o1 hz hc (by simpa using a1) hpw (fun k => by rw [pn.mem_iff, ← hm k]) ?_⟩
  · have q := k1 b u e
    have hlt := Heap.lt_size q
    show (sortedHeap (s1.heap.push (seqObj "list" vs.toArray 0)) s1.heap.objs.size vs _).get? b = some u
    rw [sortedHeap_old (Nat.ne_of_lt hlt) (by rw [size_push']; exact Nat.lt_succ_of_lt hlt)]
    exact Heap.get?_push_of_some _ q
  · rw [pn.length_eq, List.length_map, Array.length_toList]; exact hn
end
/-! ### as calls by values -/
def SetSO (w : World) (a : Addr) (L : List Str) : HO := .ext fun h => SetS w h a L
theorem setSO_new {P : Program} {w : World} {H : Hp} {h : Heap} {a : Addr} {L : List Str} (R : SetS w h a L) : ObjOk P w H h a (SetSO w a L) := by
  have ⟨o, es, ep, t, ho, r⟩ := R
  exact ⟨R, ⟨o, ho⟩, fun h1 h2 p k => p.at k⟩
section
variable {X : Cx}
def rSetOfS (K : PySem.W.Frag) (w : World) : List V → Hp → VK → Prop := fun xs H Q => ∃ (l : Addr) (L : List Str), xs = [V.ref l] ∧ SqL K H l (L.map V.str) ∧ L.length < 1000 ∧ ∀ a, H a = none → Q (.ref a) (upd H a (SetSO w a L))
theorem cr_setOfS (hc : X.calm = true) : CallR X (.type "set") (rSetOfS X.K X.w) := by
  intro pins s σ H xs us Q I r h
  obtain ⟨l, L, rfl, hl, hf, q⟩ := h
  rw [Vals.ref1 r]
  obtain ⟨its, rv, pl, hz⟩ := I.list hl
  have hn : H s.heap.objs.size = none := I.hok.fresh (Nat.le_refl _)
  refine call_set_textsS (I.ok.hd hc) pl.isList (by simpa using strsAre_of rv) hf fun h' tk R k => ?_
  exact ⟨.ref s.heap.objs.size, upd H s.heap.objs.size (SetSO X.w s.heap.objs.size L), I.laid (t' := tk) (fun b o e => k b o (Heap.lt_size e) e) (Nat.le_refl _) (setSO_new R), rfl, q _ hn⟩
def rSortedS (w : World) : List V → Hp → VK → Prop := fun vs H Q => ∃ (a : Addr) (L : List Str), vs = [V.ref a] ∧ H a = some (SetSO w a L) ∧ L.length < 1000 ∧
  ∀ (ks : List Str) (p : Addr), (∀ k, k ∈ ks ↔ k ∈ L) → ks.Pairwise (fun x y => x.cps.toList < y.cps.toList) → H p = none → Q (.ref p) (upd H p (.lst (ks.map V.str)))
theorem strs_vals : ∀ {us : List Value} {ks : List Str}, PyProof.Rows.StrsAre us ks → Vals (ks.map V.str) us
  | _, _, .nil => .nil
  | _, _, .cons k t r => .cons ⟨t, rfl⟩ (strs_vals r)
theorem cr_sortedS (hc : X.calm = true) (hu : X.A.units + 65 < cLine) : CallR X (.builtin "sorted") (rSortedS X.w) := by
  intro pins s σ H vs us Q I r h
  obtain ⟨a, L, rfl, ha, hL, q⟩ := h
  have R : SetS X.w s.heap a L := (I.hok a _ ha).1
  rw [Vals.ref1 r]
  refine sorted_setS R (I.ok.hd hc) (by omega) hL fun s' p out c ks k g o hp hg hout pw hm hle => ?_
  have hlen : (ks.map V.str).length ≤ sizeLine := by rw [List.length_map, sizeLine_eq]; omega
  have hn : H p = none := I.hok.fresh hp
  have hv : Vals (ks.map V.str) out.toList := strs_vals hout
  have J : Inv X pins σ (upd H p (.lst (ks.map V.str))) { s with heap := s'.heap, gens := s'.gens, drawn := s'.drawn, toks := s'.toks } :=
    I.call (ch := []) (Un.laid k hp hn) (I.hok.laid k hp ⟨hlen, out.toList, c, hv, hg⟩) (by rw [g]; exact I.bare) (fun _ z => nomatch z)
  have e : s' = { s with heap := s'.heap, gens := s'.gens, drawn := s'.drawn, toks := s'.toks } := by
    cases s'
    cases s
    cases o
    rfl
  rw [e]
  exact ⟨.ref p, _, J, rfl, q ks p hm pw hn⟩
theorem cr_setOfSK (K : PySem.W.Frag) (w : World) (hc : X.calm = true) (h : X.K = K := by rfl) (h3 : X.w = w := by rfl) : CallR X (.type "set") (rSetOfS K w) := by
  subst h h3
  exact cr_setOfS hc
theorem cr_sortedSK (w : World) (hc : X.calm = true) (hu : X.A.units + 65 < cLine) (h3 : X.w = w := by rfl) : CallR X (.builtin "sorted") (rSortedS w) := by
  subst h3
  exact cr_sortedS hc hu
end
section
variable {K : PySem.W.Frag} {w : World} {A : Amb} {S : List SV} {k : KA} {te to ta : TE}
/-- sorted(set(xs)), xs texts: rising, each once, as data -/
theorem wp_sortSetS (h : Wp K A te S fun A1 s => ∃ L : List Str, s = .dat (.list (L.map .str)) ∧ L.length < 1000 ∧ ∀ ks : List Str, (∀ c, c ∈ ks ↔ c ∈ L) → ks.Pairwise (fun x y => x.cps.toList < y.cps.toList) → k A1 (.dat (.list (ks.map .str)))) :
    Wp K A (tCB (rSortedS w) (tCons (tCB (rSetOfS K w) (tCons te tNil)) tNil)) S k := fun R F σ H Q a sd q => by
  refine h R F σ H _ a sd fun A1 s v F1 H1 ⟨L, hs, hl, hk⟩ e1 a1 r1 => ?_
  subst hs
  obtain ⟨l, xs, rfl, h1, h2⟩ := sr_lst r1
  obtain rfl := dt_strs h2
  refine ⟨l, L, rfl, .inl (.inl (a1.same _ _ h1)), hl, fun st hst => ?_⟩
  obtain ⟨a2, e2⟩ := a1.alloc (o := SetSO w st L) hst
  refine ⟨st, L, rfl, upd_same, hl, fun ks p hm hpw hp => ?_⟩
  obtain ⟨a3, e3⟩ := a2.alloc (o := .lst (ks.map V.str)) hp
  exact q A1 _ _ _ _ (hk ks hm hpw) ((e1.trans e2).trans e3) a3 (.lst upd_same (strs_dt ks))
end
end DL

/-! Tuples known to the object: tuple(xs), (a, b); dict(t) of one; d.get(k, x). -/
namespace DL
open PySem L2 RZ PyProof.Rows PySem.Spec
section
variable {K : PySem.W.Frag} {A : Amb} {S : List SV} {k : KA} {te to td ty tx : TE} {ds : List PyData}
theorem bar_dat {F : Hp} {v : V} (h : SR K F v (.bar ds)) : SR K F v (.dat (.tuple ds)) := by
  obtain ⟨a, o, xs, rfl, h1, _, h3⟩ := h
  exact Dt.tup (.inl (.inr ⟨o, h1⟩)) h3
theorem wp_vbar {i : Nat} (e : S[i]? = some (.bar ds)) (h : k A (.bar ds)) : Wp K A (tVar i) S k := wp_var e (by intro z; cases z) h
theorem wp_vb {i : Nat} (e : S[i]? = some (.bar ds)) (h : k A (.dat (.tuple ds))) : Wp K A (tVar i) S k := fun R F σ H Q a sd q => by
  obtain ⟨v, h1, r⟩ := sd.get e (by intro z; cases z)
  exact ⟨v, h1, q A _ v F H h (Same.refl F) a (bar_dat r)⟩
theorem sd_weak {F : Hp} : ∀ {σ : L2.St} {S : List SV} {i : Nat}, SD K F σ S → S[i]? = some (.bar ds) → SD K F σ (S.set i (.dat (.tuple ds)))
  | _, _, _, .nil, e => by simp at e
  | _, _, 0, .cons h t, e => by
    simp at e
    subst e
    refine .cons ?_ t
    rcases h with h | ⟨v, h1, r⟩
    · cases h
    · exact .inr ⟨v, h1, bar_dat r⟩
  | _, _, i + 1, .cons h t, e => .cons h (sd_weak t (by simpa using e))
theorem go_weak {tu : TS} {E : DE} (i : Nat) (e : S[i]? = some (.bar ds)) (h : Go K A tu (S.set i (.dat (.tuple ds))) E) : Go K A tu S E := fun R F σ H D a sd o => h R F σ H D a (sd_weak sd e) o
theorem wp_weak {te : TE} {k : KA} (h : Wp K A te S fun A1 s => ∃ ds, s = .bar ds ∧ k A1 (.dat (.tuple ds))) : Wp K A te S k := fun R F σ H Q a sd q =>
  h R F σ H _ a sd fun A1 s v F1 H1 ⟨ds, hs, hk⟩ e1 a1 r1 => by
    subst hs
    exact q A1 _ v F1 H1 hk e1 a1 (bar_dat r1)
end
/-! ### tuple(xs) -/
def rTupB (K : PySem.W.Frag) : List V → Hp → VK → Prop := fun xs H Q => ∃ p ys, xs = [.ref p] ∧ SqL K H p ys ∧ ∀ l o, o.dict = none → H l = none → Q (.ref l) (upd H l (.frz o (.tup ys)))
theorem call_tupB {X : Cx} : CallR X (.type "tuple") (rTupB X.K) := by
  intro pins s σ H xs us Q I r h
  obtain ⟨p, ys, rfl, hq, q⟩ := h
  obtain ⟨u, rfl, rx⟩ := vals1 r
  cases rx
  obtain ⟨its, r', pl, hz⟩ := I.list hq
  have hlen := r'.length
  refine call_tuple_list pl.isList (fun h' kp => ?_) (by simp only [List.size_toArray] <;> omega)
  have I1 : Inv X pins σ H { s with heap := h' } := I.kept (t' := s.toks) kp
  have I2 : Inv X pins σ (upd H h'.objs.size (.frz { cls := .type "tuple", data := .seq its.toArray } (.tup ys))) { s with heap := h'.push { cls := .type "tuple", data := .seq its.toArray } } :=
    I1.laid (t' := s.toks) (fun b o e => Heap.get?_push_of_some _ e) (Nat.le_refl _) (show ObjOk X.prog X.w _ _ _ (.frz _ (.tup ys)) from ⟨Heap.get?_push_size _ rfl, hz, its, r', IsTup.new _ _⟩)
  exact ⟨.ref h'.objs.size, _, I2, rfl, q _ _ rfl (I1.hok.fresh (Nat.le_refl _))⟩
theorem call_tupBK (K : PySem.W.Frag) {X : Cx} (h : X.K = K := by rfl) : CallR X (.type "tuple") (rTupB K) := h ▸ call_tupB
/-! ### (a, b) -/
def tTupB (t : TA) : TE := fun σ H Q => t σ H fun xs H1 => xs.length ≤ sizeLine ∧ ∀ p o, o.dict = none → H1 p = none → Q (.ref p) (upd H1 p (.frz o (.tup xs)))
theorem pe_tupB {X : Cx} {es : List Expr} {t : TA} {pos : Pos} {x1} (h : PA X es t) : PE X (.Tuple es x1 pos) (tTupB t) := by
  refine ⟨fun pins s σ H Q I hq => ?_⟩
  refine wpAny_Tuple_spliced (thn (h.run pos pins s σ H _ I hq) fun us s1 ⟨xs, H1, I1, r, z, q⟩ => ⟨by rw [← r.length]; exact z, ?_⟩)
  have hf : H1 s1.heap.objs.size = none := I1.hok.fresh (Nat.le_refl _)
  refine ⟨.ref s1.heap.objs.size, upd H1 s1.heap.objs.size (.frz { cls := .type "tuple", data := .seq us.toArray } (.tup xs)), I1.laid (t' := s1.toks) (fun b u e => Heap.get?_push_of_some _ e) (Nat.le_refl _) ?_, rfl, q _ _ rfl hf⟩
  exact ⟨Heap.get?_push_size _ rfl, z, us, r, ⟨_, Heap.get?_push_size _ rfl, rfl, _, rfl⟩⟩
/-! ### dict(t) -/
section
variable {X : Cx}
theorem pairs_of2 {pins : List (Addr × Obj)} {σ : L2.St} {H : Hp} {s : Shared} (I : Inv X pins σ H s) : ∀ {ps : List Addr} {kvs : List (Key × V)}, Paired (fun p kv => SqT X.K H p [kV kv.1, kv.2]) ps kvs →
    ∃ (prs : List (Key × Value)) (kvl : List (Value × Value)), KV kvs prs ∧ prs.length = ps.length ∧ kvl.length = ps.length ∧ ∀ (j : Nat) (u y : Value), kvl[j]? = some (u, y) → ∃ (b : Addr) (k : Key), ps[j]? = some b ∧ prs[j]? = some (k, y) ∧ IsTup s.heap b #[u, y] ∧ keyIs k u = true
  | _, _, .nil => ⟨[], [], .nil, rfl, rfl, fun j u y e => by simp at e⟩
  | _, _, .cons (a := p) (b := kv) h t => by
    obtain ⟨prs, kvl, r, hl, hl2, hp⟩ := pairs_of2 I t
    obtain ⟨its, rv, ht, _⟩ := I.tuple h
    obtain ⟨u, y, ei, ru, ry⟩ := vals2 rv
    subst ei
    refine ⟨(kv.1, y) :: prs, (u, y) :: kvl, .cons ⟨rfl, ry⟩ r, by rw [List.length_cons, List.length_cons, hl], by rw [List.length_cons, List.length_cons, hl2], fun j u' y' e => ?_⟩
    cases j with
    | zero =>
      have e' : (u, y) = (u', y') := Option.some.inj e
      cases e'
      exact ⟨p, kv.1, rfl, rfl, ht, kV_is (P := X.prog) (w := X.w) ru⟩
    | succ j =>
      obtain ⟨b, k', e1, e2, e3, e4⟩ := hp j u' y' (by simpa using e)
      exact ⟨b, k', by simpa using e1, by simpa using e2, e3, e4⟩
def rDictB (K : PySem.W.Frag) : List V → Hp → VK → Prop := fun xs H Q => ∃ (a : Addr) (o : Obj) (ps : List Addr) (kvs : List (Key × V)), xs = [.ref a] ∧ H a = some (.frz o (.tup (ps.map V.ref))) ∧ o.dict = none ∧ Paired (fun p kv => SqT K H p [kV kv.1, kv.2]) ps kvs ∧
    ∀ p, H p = none → Q (.ref p) (upd H p (.dK (mergeK [] kvs)))
theorem call_dictB (hcalm : X.calm = true) : CallR X (.type "dict") (rDictB X.K) := by
  intro pins s σ H xs us Q I r q
  obtain ⟨a, o, ps, kvs, ex, ha, hod, hp, q⟩ := q
  subst ex
  obtain ⟨u, eu, rx⟩ := vals1 r
  subst eu
  cases rx
  obtain ⟨ho, hz, its, rv, ot, hot, hc, n, hd⟩ := (show s.heap.get? a = some o ∧ (ps.map V.ref).length ≤ sizeLine ∧ ∃ its : List Value, Vals (ps.map V.ref) its ∧ IsTup s.heap a its.toArray from I.hok a _ ha)
  rw [ho] at hot
  cases hot
  have ei := refs_at rv
  subst ei
  rw [List.length_map] at hz
  obtain ⟨prs, kvl, rel, hl, hl2, hpr⟩ := pairs_of2 I hp
  refine PySem.call_dict_pairs (knd := mixKind X.prog X.w) (kvs := prs) (PySem.PairArg.tuple a (ps.map Value.ref).toArray (fun j => ps.getD j 0) kvl) (I.ok.hd hcalm) ⟨⟨o, n, ho, hc, hod, hd⟩, by simp [hl2], fun j k v e => ?_⟩ ⟨by rw [hl, hl2], fun j k v e => ?_⟩ (by rw [hl2]; exact hz) fun h' tk hd' k => ?_
  · obtain ⟨b, k', e1, e2, e3, e4⟩ := hpr j k v e
    have e5 : ps.getD j 0 = b := by rw [List.getD_eq_getElem?_getD, e1]; rfl
    refine ⟨by simp [e1], .inl ?_⟩
    show s.heap.IsTuple (ps.getD j 0) _
    rw [e5]
    exact e3
  · obtain ⟨b, k', e1, e2, e3, e4⟩ := hpr j k v e
    exact ⟨k', e2, e4⟩
  · have hm : (s.heap.objs.size == sysModules) = false := beq_eq_false_iff_ne.mpr (Nat.ne_of_gt I.big)
    have hlen : (mergeK [] kvs).length ≤ sizeLine := by
      refine Nat.le_trans (length_mergeK kvs []) ?_
      rw [List.length_nil, Nat.zero_add, rel.length, hl]
      exact hz
    exact ⟨.ref s.heap.objs.size, upd H s.heap.objs.size (.dK (mergeK [] kvs)), I.laid (t' := tk) (fun b o e => k b o (by simp) e) (Nat.le_refl _) (show ObjOk X.prog X.w _ _ _ (.dK (mergeK [] kvs)) from ⟨hlen, hm, merged [] prs, KV.merge rel .nil, hd'⟩), rfl, q _ (I.hok.fresh (Nat.le_refl _))⟩
theorem call_dictBK (K : PySem.W.Frag) (hc : X.calm = true) (h : X.K = K := by rfl) : CallR X (.type "dict") (rDictB K) := h ▸ call_dictB hc
end
section
variable {K : PySem.W.Frag} {A : Amb} {S : List SV} {k : KA} {te to td ty tx : TE} {ta : TA} {ds : List PyData}
theorem cw_tupB (h : k A (.bar ds)) : CW K (rTupB K) [.dat (.list ds)] A k := fun R F H vs Q a r q => by
  obtain ⟨v, rfl, r1⟩ := one_of r
  obtain ⟨p, xs, rfl, h1, h2⟩ := sr_lst r1
  refine ⟨p, xs, rfl, .inl (.inl (a.same _ _ h1)), fun l o hd hl => ?_⟩
  obtain ⟨a2, e2⟩ := a.alloc (o := .frz o (.tup xs)) hl
  exact q A _ _ _ _ h e2 a2 ⟨l, o, xs, rfl, upd_same, hd, h2.mono e2⟩
theorem wp_tupB (h : WpA K A ta S fun A1 ss => ∃ ds, datsOf ss = some ds ∧ ds.length ≤ sizeLine ∧ k A1 (.bar ds)) : Wp K A (tTupB ta) S k := fun R F σ H Q a sd q =>
  h R F σ H _ a sd fun A1 ss vs F1 H1 ⟨ds, h1, h2, h3⟩ e1 a1 r1 => by
    rw [datsOf_eq h1] at r1
    have rd := srs_dats r1
    refine ⟨by rw [rd.length]; exact h2, fun p o hd hp => ?_⟩
    obtain ⟨a2, e2⟩ := a1.alloc (o := .frz o (.tup vs)) hp
    exact q A1 _ _ _ _ h3 (e1.trans e2) a2 ⟨p, o, vs, rfl, upd_same, hd, rd.mono e2⟩
theorem cw_dictB {prs : List (Key × PyData)} (h : ∀ p, k (A.add p (.dk (mergeS [] (prs.map fun q => (q.1, SV.dat q.2))))) (.ptr p)) : CW K (rDictB K) [.bar (prs.map fun q => .tuple [keyD q.1, q.2])] A k := fun R F H vs Q a r q => by
  obtain ⟨v, rfl, b, o, xs, rfl, f1, f2, f3⟩ := one_of r
  obtain ⟨ps, kvs, rfl, g1, g2⟩ := pairs_dt f3
  refine ⟨b, o, ps, kvs, rfl, a.same _ _ f1, f2, Paired.mono (fun _ _ q => same_t a.same q) g1, fun l hl => ?_⟩
  exact q _ _ _ _ _ (h l) (Same.refl F) (a.new (o := .dK (mergeK [] kvs)) (c := .dk _) hl ⟨_, upd_same, kvr_merge g2 .nil⟩) rfl
theorem wp_dget2 (h : Wp K A td S fun A1 s => ∃ p kvs0, s = .ptr p ∧ (p, .dk kvs0) ∈ A1.cells ∧ Wp K A1 ty S fun A2 s2 => Wp K A2 tx S fun A3 s3 => ∃ kvs x, s2 = .dat (keyD x) ∧ (p, .dk kvs) ∈ A3.cells ∧ (∀ v, lookS kvs x = some v → k A3 v) ∧ (lookS kvs x = none → k A3 s3)) : Wp K A (tDGet2 td ty tx) S k := fun R F σ H Q a sd q =>
  h R F σ H _ a sd fun A1 s v F1 H1 ⟨p, kvs0, hs, hp0, h1⟩ e1 a1 r1 => by
    subst hs
    obtain rfl : v = .ref p := r1
    obtain ⟨vs0, g1, g2⟩ := a1.cell hp0
    refine ⟨p, rfl, .inl ⟨vs0, .inl g1⟩, h1 R F1 σ H1 _ a1 (sd.mono e1) fun A2 s2 y F2 H2 h2 e2 a2 r2 => h2 R F2 σ H2 _ a2 ((sd.mono e1).mono e2) fun A3 s3 z F3 H3 ⟨kvs, x, hs2, hp, hk1, hk2⟩ e3 a3 r3 => ?_⟩
    subst hs2
    obtain rfl := keyD_v r2
    obtain ⟨vs, h3, h4⟩ := a3.cell hp
    obtain ⟨l1, l2⟩ := kvr_look (x := x) h4
    refine ⟨_, DGet.k h3, ?_⟩
    cases e : lookS kvs x with
    | none =>
      rw [l2 e]
      exact q A3 _ _ F3 H3 (hk2 e) ((e1.trans e2).trans e3) a3 r3
    | some sv =>
      obtain ⟨y', h5, h6⟩ := l1 sv e
      rw [h5]
      exact q A3 _ _ F3 H3 (hk1 sv e) ((e1.trans e2).trans e3) a3 h6
end
/-! ### an owned dict becomes data; an owned list in a slot does -/
section
variable {K : PySem.W.Frag} {A : Amb} {S : List SV} {k : KA} {te : TE}
theorem At.frzd {F H : Hp} {p : Addr} {ks : List (Key × PyData)} {l' : List (Addr × Cell)} (a : At K A F H) (r : Rem A.cells p (.dk (ks.map fun q => (q.1, .dat q.2))) l') : ∃ F', Same F F' ∧ At K ⟨A.I, l'⟩ F' H ∧ Dt K F' (.ref p) (.dict (ks.map fun q => (keyD q.1, q.2))) := by
  obtain ⟨f1, f2, vs, f3, f4⟩ := a.cell p _ r.mem
  have s : Same F (upd F p (.dK vs)) := same_new f1
  have hk : vs.map (·.1) = ks.map (·.1) := by
    have := kvr_keys f4
    rw [List.map_map] at this
    exact this
  have hv : ∀ {vs : List (Key × V)} {ks : List (Key × PyData)}, KVR K F vs (ks.map fun q => (q.1, SV.dat q.2)) → DtAll K F (vs.map (·.2)) (ks.map (·.2)) := by
    intro vs ks
    induction ks generalizing vs with
    | nil => intro h; cases h; exact .nil
    | cons q ks ih =>
      intro h
      cases h with
      | cons r t => exact .cons r.2 (ih t)
  refine ⟨upd F p (.dK vs), s, ⟨fun b u e => ?_, A.I.ext s (fun _ _ => rfl) a.blk, fun c hc => ?_, fun q d hq => ?_, (r.sub.map _).nodup a.nd⟩, .dct upd_same hk ((hv f4).mono s)⟩
  · unfold upd at e
    split at e
    · rename_i hb
      rw [hb, f3]
      exact e
    · exact a.same b u e
  · rw [upd_ne fun e => f2 (by rw [← e]; exact hc)]
    exact a.bfree c hc
  · obtain ⟨h1, h2, h3⟩ := a.cell q d (r.sub.subset hq)
    have ne : q ≠ p := r.ne a.nd q d hq
    exact ⟨by rw [upd_ne ne]; exact h1, h2, h3.mono s rfl⟩
theorem wp_frzd (h : Wp K A te S fun A1 s => ∃ (p : Addr) (ks : List (Key × PyData)) (l' : List (Addr × Cell)), s = .ptr p ∧ Rem A1.cells p (.dk (ks.map fun q => (q.1, .dat q.2))) l' ∧ k ⟨A1.I, l'⟩ (.dat (.dict (ks.map fun q => (keyD q.1, q.2))))) : Wp K A te S k := fun R F σ H Q a sd q =>
  h R F σ H _ a sd fun A1 s v F1 H1 ⟨p, ks, l', hs, hr, hk⟩ e1 a1 r1 => by
    subst hs
    obtain rfl : v = .ref p := r1
    obtain ⟨F2, e2, a2, d2⟩ := At.frzd (A := ⟨A1.I, A1.cells ++ R⟩) a1 hr.app
    exact q _ _ _ _ _ hk (e1.trans e2) a2 d2
theorem sd_data {F : Hp} {d : PyData} {p : Addr} (hd : Dt K F (.ref p) d) : ∀ {σ : L2.St} {S : List SV} {i : Nat}, SD K F σ S → S[i]? = some (.ptr p) → SD K F σ (S.set i (.dat d))
  | _, _, _, .nil, e => by simp at e
  | _, _, 0, .cons h t, e => by
    simp at e
    subst e
    refine .cons ?_ t
    rcases h with h | ⟨v, h1, r⟩
    · cases h
    · obtain rfl : v = .ref p := r
      exact .inr ⟨_, h1, hd⟩
  | _, _, i + 1, .cons h t, e => .cons h (sd_data hd t (by simpa using e))
theorem go_frzs {tu : TS} {E : DE} {p : Addr} {ds : List PyData} {l' : List (Addr × Cell)} (i : Nat) (e : S[i]? = some (.ptr p)) (r : Rem A.cells p (.lst (ds.map .dat)) l') (h : Go K ⟨A.I, l'⟩ tu (S.set i (.dat (.list ds))) E) : Go K A tu S E := fun R F σ H D a sd o => by
  obtain ⟨F2, e2, a2, d2⟩ := At.frz (A := ⟨A.I, A.cells ++ R⟩) a r.app
  exact h R F2 σ H D a2 (sd_data d2 (sd.mono e2) e) (o.mono e2)
theorem go_par3 {E : DE} {i j l : Nat} {ta : TA} (h : WpA K A ta S fun A1 ss => ∃ a b c, ss = [a, b, c] ∧ E.nx A1 (((S.set i a).set j b).set l c)) : Go K A (tPar3 i j l ta) S E := fun R F σ H D a sd o =>
  h R F σ H _ a sd fun A1 ss vs F1 H1 ⟨x, y, z, hs, hk⟩ e1 a1 r1 => by
    subst hs
    cases r1 with
    | cons q1 r2 =>
      cases r2 with
      | cons q2 r3 =>
        cases r3 with
        | cons q3 r4 =>
          cases r4
          exact ⟨_, _, _, rfl, o.nx _ _ _ _ _ hk e1 a1 ((((sd.mono e1).put i q1).put j q2).put l q3)⟩
theorem cw_sumI {ns : List Int} (h : k A (.dat (.int ns.sum))) : CW K (rSum K) [.dat (.list (ns.map .int))] A k := fun R F H vs Q a r q => by
  obtain ⟨v, rfl, r1⟩ := one_of r
  obtain ⟨p, xs, rfl, h1, h2⟩ := sr_lst r1
  obtain rfl := dt_ints h2
  exact ⟨p, ns, rfl, .inl (.inl (a.same _ _ h1)), q _ _ _ _ _ h (Same.refl F) a (.int _)⟩
theorem cr_sumK (K : PySem.W.Frag) {X : Cx} (hc : X.calm = true) (h : X.K = K := by rfl) : CallR X (.builtin "sum") (rSum K) := h ▸ cr_sum hc
def rMaxN : List V → Hp → VK → Prop := fun xs H Q => ∃ i j, xs = [.int i, .int j] ∧ Q (.int (if j > i then j else i)) H
theorem call_maxN {X : Cx} (hc : X.calm = true) : CallR X (.builtin "max") rMaxN := call_max2 hc
theorem cw_maxN {i j : Int} (h : k A (.dat (.int (if j > i then j else i)))) : CW K rMaxN [.dat (.int i), .dat (.int j)] A k := fun R F H vs Q a r q => by
  obtain ⟨v, w, rfl, r1, r2⟩ := two_of r
  obtain rfl := sr_int r1
  obtain rfl := sr_int r2
  exact ⟨i, j, rfl, q _ _ _ _ _ h (Same.refl F) a (.int _)⟩
end
end DL

/-! Defs that may raise (an own class without an own __init__), and try: .. except X: of such a call. -/
namespace DL
open PySem L2
/-- a block, and that a frozen heap is an earlier one's -/
def Blk.from (I : Blk) (F0 : Hp) : Blk := ⟨I.cs, fun F H => I.G F H ∧ Same F0 F, fun e hh h => ⟨I.ext e hh h.1, h.2.trans e⟩, fun h hc => I.here h.1 hc⟩
section
variable {K : PySem.W.Frag} {A : Amb} {S : List SV} {R R' : List (Addr × Cell)} {F F0 H : Hp}
theorem at_in (a : AtR K A R F H) : AtR K ⟨A.I.from F, A.cells ++ R⟩ [] F H := by
  refine ⟨At.same a, ⟨At.blk (A := ⟨A.I, A.cells ++ R⟩) a, Same.refl F⟩, fun c hc => At.bfree (A := ⟨A.I, A.cells ++ R⟩) a c hc, fun p c h => At.cell (A := ⟨A.I, A.cells ++ R⟩) a p c ?_, ?_⟩
  · have h' : (p, c) ∈ (A.cells ++ R) ++ [] := h
    rwa [List.append_nil] at h'
  · have h := At.nd (A := ⟨A.I, A.cells ++ R⟩) a
    simpa only [List.append_nil] using h
theorem at_out {l : List (Addr × Cell)} (hl : (A.cells ++ R).Sublist l) (a : AtR K ⟨A.I.from F0, l⟩ R' F H) : AtR K A R F H ∧ Same F0 F := by
  have hs : (A.cells ++ R).Sublist (l ++ R') := hl.trans (List.sublist_append_left _ _)
  obtain ⟨b1, b2⟩ := At.blk (A := ⟨A.I.from F0, l ++ R'⟩) a
  exact ⟨⟨At.same a, b1, fun c hc => At.bfree (A := ⟨A.I.from F0, l ++ R'⟩) a c hc, fun p c h => At.cell (A := ⟨A.I.from F0, l ++ R'⟩) a p c (hs.subset h), (hs.map _).nodup (At.nd (A := ⟨A.I.from F0, l ++ R'⟩) a)⟩, b2⟩
end
/-- a def's promise that leaves what is owned as it was: what is wanted of the answer, of the class of what is raised -/
def spP (K : PySem.W.Frag) (W : List SV → (SV → Prop) → (Value → Prop) → Prop) : Sp := fun vs H Q E => ∃ (A : Amb) (R : List (Addr × Cell)) (F : Hp) (ss : List SV) (k : SV → Prop) (x : Value → Prop), AtR K A R F H ∧ SRs K F vs ss ∧ W ss k x ∧ OutV K R F Q (fun A1 s => A1 = A ∧ k s) ∧ ∀ cls F' H', x cls → Same F F' → AtR K A R F' H' → E cls none H'
section
variable {K : PySem.W.Frag} {A : Amb} {S : List SV} {W : List SV → (SV → Prop) → (Value → Prop) → Prop} {k : KA} {ta : TA}
theorem fn_goP {P : Program} {w : World} {mg : Str → Option Value} {base : Heap} {x qual : Str} {st : Stmt} {f : Addr} {fd : FuncData} {N ps : List Str} {n : Nat} (F : Fun K x qual st f fd) (Sc : FnScope N ps (defScope st))
    (len : ∀ ss k x, W ss k x → ss.length = ps.length)
    (hbody : ∀ (cdv : Value) (A : Around) (outer : List Env) (s : Shared) (H : Hp) (E : XK), Room n (A.deeper (PyProof.Rows.envOfC qual (defScope st) s.heap.objs.size f cdv)) →
      ∃ t, PSs (cxOf (L2.CX P w) P w K mg base N qual (defScope st) f cdv A outer s H E) (defBody st) t ∧ ∀ (ss : List SV) (k : SV → Prop) (x : Value → Prop) (B : Amb), W ss k x →
        (∀ (cls : Value) (l : List (Addr × Cell)), x cls → B.cells.Sublist l → ∀ R F H, AtR K ⟨B.I, l⟩ R F H → E cls none H) →
        Go K B t (ss ++ List.replicate (N.length - ss.length) .no) ⟨fun A1 _ => A1 = B ∧ k (.dat .none), fun _ _ => False, fun _ _ => False, fun A1 s => A1 = B ∧ k s⟩) :
    FnOk P w K mg base (L2.CX P w) (n + 1) f fd ps (spP K W) := by
  refine F.okX Sc (fun vs H Q E h => ?_) (fun cdv A outer s H vs Q E hr h => ?_)
  · obtain ⟨B, R, G, ss, k, x, a, r, hw, q, qx⟩ := h
    rw [r.length]
    exact len ss k x hw
  · obtain ⟨B, R, G, ss, k, x, a, r, hw, q, qx⟩ := h
    obtain ⟨t, ht, go⟩ := hbody cdv A outer s H E hr
    refine ⟨t, ht, go ss k x ⟨B.I.from G, B.cells ++ R⟩ hw (fun cls l hx hl R1 F1 H1 a1 => ?_) [] G _ H _ (at_in a) (SD.start N r) ⟨fun A1 S1 F1 σ1 H1 h1 e1 a1 _ => ?_, fun A1 S1 F1 σ1 H1 h1 => h1.elim, fun A1 S1 F1 σ1 H1 h1 => h1.elim, fun A1 s1 v F1 H1 h1 e1 a1 r1 => ?_⟩⟩
    · obtain ⟨a2, e2⟩ := at_out hl a1
      exact qx cls F1 H1 hx e2 a2
    · obtain ⟨rfl, hk⟩ := h1
      exact q B _ _ F1 H1 ⟨rfl, hk⟩ e1 (at_out (List.Sublist.refl _) a1).1 .non
    · obtain ⟨rfl, hk⟩ := h1
      exact q B s1 v F1 H1 ⟨rfl, hk⟩ e1 (at_out (List.Sublist.refl _) a1).1 r1
/-- called where nothing it raises may come -/
theorem wp_callE (h : WpA K A ta S fun A1 ss => W ss (k A1) (fun _ => False)) : Wp K A (tCall (spP K W) [] E0 ta) S k := fun R F σ H Q a sd q =>
  h R F σ H _ a sd fun A1 ss vs F1 H1 h1 e1 a1 r1 => by
    show spP K W (vs ++ []) H1 Q E0
    rw [List.append_nil]
    exact ⟨A1, R, F1, ss, k A1, fun _ => False, a1, r1, h1, fun A2 s v F2 H2 hk e2 a2 r2 => by
      obtain ⟨rfl, hk⟩ := hk
      exact q A2 s v F2 H2 hk (e1.trans e2) a2 r2, fun cls F' H' hx => hx.elim⟩
/-- called where what it raises is taken -/
theorem wp_callS {Wx : WX} (x : Value → Prop) (h : WpA K A ta S fun A1 ss => W ss (k A1) x ∧ ∀ cls, x cls → ∀ R F σ H, AtR K A1 R F H → SD K F σ S → Wx cls none σ H) : Wp K A (tCallS (spP K W) (WE Wx) ta) S k := fun R F σ H Q a sd q =>
  h R F σ H _ a sd fun A1 ss vs F1 H1 ⟨h1, hx⟩ e1 a1 r1 => ⟨A1, R, F1, ss, k A1, x, a1, r1, h1, fun A2 s v F2 H2 hk e2 a2 r2 => by
    obtain ⟨rfl, hk⟩ := hk
    exact q A2 s v F2 H2 hk (e1.trans e2) a2 r2, fun cls F' H' hc e2 a2 => hx cls hc R F' σ H' a2 ((sd.mono e1).mono e2)⟩
def tRaise (E : XK) (cls : Value) : TS := fun _ _ H => E cls none H
theorem ps_raiseP {X : Cx} {E : XK} {e : Expr} {cls : Value} {pos : Pos} (hc : X.calm = true) (tk : Takes X (fun cls d _ H => E cls d H)) (he : PMk X e (fun _ H Q => Q cls none H)) : PS X (.Raise (some e) none pos) (tRaise E cls) := ps_raise hc tk he
theorem go_raise {E : XK} {cls : Value} {D : DE} (h : ∀ R F H, AtR K A R F H → E cls none H) : Go K A (tRaise E cls) S D := fun R F σ H _ a _ _ => h R F H a
def tTryO (K : PySem.W.Frag) (c : Value) (ts : Addr → Value → Option Addr → TS) (tb : WX → TS) : TS := fun D σ H => tb (wOnly K c ts (fun _ _ _ _ => False) D) D σ H
theorem ps_tryP {X : Cx} {x : Str} {c : Value} {body suite : List Stmt} {b₀ : Stmt} {np pos pos' : Pos} {tb : WX → TS} {ts : Addr → Value → Option Addr → TS} (hs : X.stack = X.env :: X.outer) (hf : X.env.frame = some X.env.locals) (hc : Names X x c)
    (hb : ∀ (W : WX) (pn : List (Addr × Obj)) (xe : Value → Shared → Prop), Takes (X.tr pn xe) W → PassesOwn (model X.prog X.w) X.A X.env xe → PSs (X.tr pn xe) body (tb W))
    (hsu : ∀ (a : Addr) (oe : Obj) (cls : Value) (d : Option Addr) (pn : List (Addr × Obj)), Zc cls d oe → (∃ vs, oe.data = .fields vs) → PSs (X.suite a ((a, oe) :: pn)) (b₀ :: suite) (ts a cls d)) :
    PS X (.Try body [.ExceptHandler (some (.Name x np)) none (b₀ :: suite) pos'] [] [] pos) (tTryO X.K c ts tb) := ps_try_only hs hf hc takes0 hb hsu
theorem go_try {E : DE} {c : Value} {ts : Addr → Value → Option Addr → TS} {tb : WX → TS} (X1 : Value → List SV → Prop) (P1 : List SV → Prop)
    (hb : ∀ (B : Amb) (W : WX), (∀ cls S1, X1 cls S1 → ∀ R F σ H, AtR K B R F H → SD K F σ S1 → W cls none σ H) → Go K B (tb W) S ⟨fun A1 S1 => A1 = B ∧ P1 S1, fun _ _ => False, fun _ _ => False, fun _ _ => False⟩)
    (hn : ∀ S1, P1 S1 → E.nx A S1)
    (hx : ∀ cls S1, X1 cls S1 → PySem.W.exmOne K cls c = some true ∧ ∀ a, Go K A (ts a cls none) S1 E) : Go K A (tTryO K c ts tb) S E := fun R F σ H D a sd o => by
  refine hb ⟨A.I.from F, A.cells ++ R⟩ (wOnly K c ts (fun _ _ _ _ => False) D) (fun cls S1 h1 R1 F1 σ1 H1 a1 sd1 => ?_) [] F σ H D (at_in a) sd ⟨fun A1 S1 F1 σ1 H1 h1 e1 a1 sd1 => ?_, fun A1 S1 F1 σ1 H1 h1 => h1.elim, fun A1 S1 F1 σ1 H1 h1 => h1.elim, fun A1 s1 v F1 H1 h1 => h1.elim⟩
  · obtain ⟨he, hg⟩ := hx cls S1 h1
    obtain ⟨a2, e2⟩ := at_out (List.Sublist.refl _) a1
    exact ⟨true, he, fun _ b _ => hg b R F1 σ1 H1 D a2 sd1 (o.mono e2), fun h => by cases h⟩
  · obtain ⟨rfl, hp⟩ := h1
    exact o.nx A S1 F1 σ1 H1 (hn S1 hp) e1 (at_out (List.Sublist.refl _) a1).1 sd1
end
end DL

/-! sorted(d) of an owned dict whose keys are texts. -/
namespace DL
open PySem L2 PyProof.Rows PySem.Spec
theorem rising_pw : ∀ {xs : List Str} {p : Str}, risingS p xs = true → (p :: xs).Nodup → (p :: xs).Pairwise fun a b => a.cps.toList < b.cps.toList
  | [], p, _, _ => by simp
  | x :: r, p, h, hn => by
    have ⟨n1, n2⟩ := List.nodup_cons.mp hn
    have h' : (!ltCps x.cps.toList p.cps.toList && risingS x r) = true := h
    rw [Bool.and_eq_true, Bool.not_eq_true'] at h'
    have ih := rising_pw h'.2 n2
    have hab : p.cps.toList < x.cps.toList := by
      have h1 : ¬ x.cps.toList < p.cps.toList := fun z => by
        have h5 := h'.1
        rw [ltCps_eq, decide_eq_true z] at h5
        cases h5
      by_cases h2 : p.cps.toList < x.cps.toList
      · exact h2
      · refine absurd ?_ n1
        have h3 := List.le_antisymm (List.not_lt.mp h1) (List.not_lt.mp h2)
        have : p = x := by
          cases p with
          | mk p => cases x with
            | mk x => congr 1; exact Array.toList_inj.mp h3
        rw [this]
        exact List.mem_cons_self
    refine List.pairwise_cons.mpr ⟨fun y hy => ?_, ih⟩
    rcases List.mem_cons.mp hy with rfl | hy
    · exact hab
    · exact List.lt_trans hab ((List.pairwise_cons.mp ih).1 y hy)
theorem sortedS_pw {ys : List Str} (h : sortedS ys = true) (hn : ys.Nodup) : ys.Pairwise fun a b => a.cps.toList < b.cps.toList := by
  cases ys with
  | nil => exact .nil
  | cons y ys => exact rising_pw h hn
def rSortDk : List V → Hp → VK → Prop := fun xs H Q => ∃ (a : Addr) (kvs : List (Key × V)) (ks : List Str), xs = [.ref a] ∧ Rd H a (.dK kvs) ∧ kvs.map (·.1) = ks.map Sum.inr ∧ ks.length < 64 ∧
    ∀ ys p, ys.Perm ks → sortedS ys = true → H p = none → Q (.ref p) (upd H p (.lst (ys.map V.str)))
theorem cr_sortDk {X : Cx} (hc : X.calm = true) : CallR X (.builtin "sorted") rSortDk := call_sortedD hc
theorem cw_sortDk {K : PySem.W.Frag} {A : Amb} {k : KA} {p : Addr} {kvs : List (Key × SV)} {ks : List Str} (hp : (p, .dk kvs) ∈ A.cells) (hk : kvs.map (·.1) = ks.map Sum.inr) (hl : ks.length < 64) (hn : ks.Nodup)
    (h : ∀ ys : List Str, ys.Perm ks → (ys.Pairwise fun a b => a.cps.toList < b.cps.toList) → k A (.dat (.list (ys.map .str)))) : CW K rSortDk [.ptr p] A k := fun R F H vs Q a r q => by
  obtain ⟨v, rfl, r1⟩ := one_of r
  obtain rfl : v = .ref p := r1
  obtain ⟨us, h1, h2⟩ := a.cell hp
  refine ⟨p, us, ks, rfl, .inl h1, (kvr_keys h2).trans hk, hl, fun ys l hy hs hl' => ?_⟩
  obtain ⟨a2, e2⟩ := a.alloc (o := .lst (ys.map V.str)) hl'
  exact q A _ _ _ _ (h ys hy (sortedS_pw hs (hy.nodup_iff.mpr hn))) e2 a2 (.lst upd_same (strs_dt ys))
end DL

/-! min(i, j) of numbers. -/
namespace DL
open PySem L2
section
variable {K : PySem.W.Frag} {A : Amb} {k : KA}
def rMinN : List V → Hp → VK → Prop := fun xs H Q => ∃ i j, xs = [.int i, .int j] ∧ Q (.int (if j < i then j else i)) H
theorem call_minN {X : Cx} (hc : X.calm = true) : CallR X (.builtin "min") rMinN := call_min2 hc
theorem cw_minN {i j : Int} (h : k A (.dat (.int (if j < i then j else i)))) : CW K rMinN [.dat (.int i), .dat (.int j)] A k := fun R F H vs Q a r q => by
  obtain ⟨v, w, rfl, r1, r2⟩ := two_of r
  obtain rfl := sr_int r1
  obtain rfl := sr_int r2
  exact ⟨i, j, rfl, q _ _ _ _ _ h (Same.refl F) a (.int _)⟩
end
section
variable {α β : Type} {K : PySem.W.Frag} {A : Amb} {S : List SV} {k : KA} {g : TG} {tt : TT} {te : TE} {vs : List Nat} {wi : TI}
theorem wp_lcE (enc : α → PyData) (to : TOnly g vs)
    (h : IW K A wi S fun A1 ss => ∃ (xs : List α) (p : α → Bool) (f : α → PyData), xs.length ≤ sizeLine ∧ ss = (xs.map enc).map .dat ∧ (∀ x ∈ xs, LcItem K g tt te S vs A1 (.dat (enc x)) (p x) (f x)) ∧ k A1 (.dat (.list ((xs.filter p).map f)))) : Wp K A (tLc wi g tt te vs) S k :=
  wp_frz <| wp_lcO to <| IW.imp h fun A1 ss ⟨xs, p, f, hl, e, hs, hk⟩ => by
    subst e
    refine ⟨fun i A2 acc => A2 = A1 ∧ i ≤ xs.length ∧ acc = (((xs.take i).filter p).map f).map .dat, ⟨rfl, Nat.zero_le _, by simp⟩, fun i s hi A2 acc ⟨e1, e0, e2⟩ => ?_, fun A2 acc ⟨e1, e0, e2⟩ q => ?_⟩
    · subst e1; subst e2
      obtain ⟨x, hx, rfl⟩ := get_enc hi
      have hlt := (List.getElem?_eq_some_iff.mp hx).1
      refine (hs x (List.mem_of_getElem? hx)).imp fun A3 S3 h3 => h3.imp fun A4 b ⟨e5, h5, h6⟩ => ⟨fun hb => ?_, fun hb => ?_⟩
      · rw [e5] at hb
        refine (h5 hb).imp fun A5 s5 ⟨e6, e7⟩ => ?_
        subst e6; subst e7
        refine ⟨?_, rfl, hlt, by rw [filter_take p f hx, if_pos hb, List.map_append]; rfl⟩
        have h1 := List.length_filter_le p (xs.take i)
        have h2 : (xs.take i).length = i := by rw [List.length_take]; omega
        rw [List.length_map, List.length_map]
        omega
      · rw [e5] at hb
        have := h6 hb
        subst this
        exact ⟨rfl, hlt, by rw [filter_take p f hx, if_neg (by rw [hb]; exact Bool.false_ne_true), List.append_nil]⟩
    · subst e1; subst e2
      rw [List.length_map, List.length_map, List.take_length]
      exact ⟨q, _, _, rfl, .head, hk⟩
theorem rw_bar1 {r : R2} {ds : List PyData} {s2 : SV} (h : RW K r (.dat (.tuple ds)) s2 A k) : RW K r (.bar ds) s2 A k := fun R F H v w Q a r1 r2 q => h R F H v w Q a (bar_dat r1) r2 q
theorem rw_bar2 {r : R2} {ds : List PyData} {s1 : SV} (h : RW K r s1 (.dat (.tuple ds)) A k) : RW K r s1 (.bar ds) A k := fun R F H v w Q a r1 r2 q => h R F H v w Q a r1 (bar_dat r2) q
end
end DL

/-! A caught exception that is kept as a value: tracked behind its try; isinstance of it. -/
namespace DL
open PySem L2 PySem.Spec PyProof.Rows
section
variable {X : Cx} {pins : List (Addr × Obj)} {σ : L2.St} {H : Hp} {s : Shared} {a : Addr} {cls : Value} {oe : Obj} {vs : Array Value}
/-- an exception's object, not tracked till now, is tracked from now on -/
theorem adopt (I : Inv X pins σ H s) (na : H a = none) (he : s.heap.get? a = some oe) (h1 : oe.cls = cls) (h2 : oe.dict = none) (h3 : oe.data = .fields vs) (h0 : X.s_0.heap.get? a = none) (nL : a ≠ X.env.locals) (np : ∀ p ∈ X.pn ++ pins, p.1 ≠ a) :
    Inv X pins σ (upd H a (ExZ cls a)) s := by
  have at_ : ∀ {b u}, H b = some u → upd H a (ExZ cls a) b = some u := fun {b u} e => by rw [upd_ne (ne_of_none e na)]; exact e
  refine ⟨I.ok, I.os, I.bare, ⟨I.base.keep, I.base.slot, fun b o e n hx => ?_, I.base.there, fun b xs e => at_ (I.base.tups b xs e), fun b o u e => at_ (I.base.frzs b o u e), fun b ps e => ?_⟩, I.loc, I.cell, ?_, fun x c e => ?_, fun p hp => ?_, fun b u e => ?_, I.len⟩
  · have hb : b ≠ a := fun z => by rw [z, h0] at e; cases e
    rw [upd_ne hb]
    exact I.base.free b o e n hx
  · obtain ⟨more, e'⟩ := I.base.tbls b ps e
    exact ⟨more, at_ e'⟩
  · rw [upd_ne (Ne.symm nL)]; exact I.free
  · have hc : c ≠ a := fun z => by
      obtain ⟨v, o, ho, hd⟩ := I.cell x c e
      rw [z, he] at ho
      cases ho
      rw [h3] at hd
      cases hd
    rw [upd_ne hc]
    exact I.freeC x c e
  · obtain ⟨p1, p2, p3⟩ := I.pin p hp
    exact ⟨p1, by rw [upd_ne (np p hp)]; exact p2, p3⟩
  · by_cases hb : b = a
    · subst hb
      rw [upd_same] at e
      cases e
      exact ⟨⟨oe, vs, he, h1, h2, h3⟩, ⟨oe, he⟩, fun _ _ ⟨o, v, q, r⟩ k => ⟨o, v, k o q, r⟩⟩
    · rw [upd_ne hb] at e
      exact (I.hok b u e).stay (fun _ _ _ q => q) (fun _ q => at_ q) fun _ _ q => at_ q
end
/-- what 'except x as n' wishes of an exception of the body, when it takes each and its suite ends at its foot: behind it the exception is tracked -/
def wAsZ (K : PySem.W.Frag) (c : Value) (i : Nat) (ts : Addr → Value → TS) (D : Ends) : WX := fun cls d σ H =>
  d = none ∧ PySem.W.exmOne K cls c = some true ∧ ∀ a, H a = none → ts a cls { nx := fun σ' H' => H' a = none → D.nx (σ'.set i none) (upd H' a (ExZ cls a)), rt := fun _ _ => False, bk := fun _ _ => False, ct := fun _ _ => False } (σ.set i (some (.ref a))) H
section
variable {X : Cx} {x n : Str} {c : Value} {i : Nat} {body suite : List Stmt} {b₀ : Stmt} {np pos pos' : Pos} {tb : WX → TS} {ts : Addr → Value → TS}
theorem ps_try_asZ (hs : X.stack = X.env :: X.outer) (hf : X.env.frame = some X.env.locals) (hex : X.ex = []) (hN : X.N.Nodup) (hi : X.N[i]? = some n) (hln : X.env.kindOf n = some .local) (hc : Names X x c)
    (hb : ∀ (W : WX) (pn : List (Addr × Obj)) (xe : Value → Shared → Prop), Takes (X.tr pn xe) W → PassesOwn (model X.prog X.w) X.A X.env xe → PSs (X.tr pn xe) body (tb W))
    (hsu : ∀ (a : Addr) (oe : Obj) (cls : Value) (pn : List (Addr × Obj)), PSs (X.suite a ((a, oe) :: pn)) (b₀ :: suite) (ts a cls)) :
    PS X (.Try body [.ExceptHandler (some (.Name x np)) (some n) (b₀ :: suite) pos'] [] [] pos) (fun D σ H => tb (wAsZ X.K c i ts D) D σ H) := by
  refine ⟨fun pins s σ H D I h => ?_⟩
  have ok := I.ok
  have hfr : X.A.frames = some (X.env :: X.outer) := by rw [ok.frames, hs]
  refine wpAny_Try_except (wpAny_mono ((hb (wAsZ X.K c i ts D) (X.pn ++ pins) (fun e s₁ => wpAny (model X.prog X.w) X.A (noteFrame e X.env) (fun _ s₂ => wpAny (model X.prog X.w) X.A (setFlight e none) (fun _ s₃ =>
    wpAny (model X.prog X.w) X.A (handleBy e X.env [.ExceptHandler (some (.Name x np)) (some n) (b₀ :: suite) pos']) (SP X pins D) X.xe s₃) X.xe s₂) X.xe s₁) (fun u s' xx => ?_) PassesOwn.looking).run [] s σ H D (I.toTry _) h) (fun f s1 hsp => ?_) fun e s1 he => he)
  rotate_left
  · cases f with
    | ret u =>
      obtain ⟨v, σ', H', J', r, q⟩ := hsp
      exact ⟨v, σ', H', J'.ofTry ok, r, q⟩
    | next =>
      obtain ⟨σ', H', J', q⟩ := hsp
      exact wpAny_execs_nil ⟨σ', H', J'.ofTry ok, q⟩
    | _ =>
      obtain ⟨σ', H', J', q⟩ := hsp
      exact ⟨σ', H', J'.ofTry ok, q⟩
  obtain ⟨a, B, sI, pins', σ', H', cls, d, rfl, J', nb, up, sky, na, os, ag, rfl, hm, hyes⟩ := xx
  have J : Inv X pins σ' H' sI := J'.ofTry ok
  refine Sky.land Zc.steady hfr hf (by rw [← hs]; exact sky) fun h3 fl3 up3 => ?_
  have J3 : Inv X pins σ' H' { s' with heap := h3 } := J.landed nb fl3.1 (up.trans up3) os ag
  obtain ⟨oe3, vs3, he3, hz3, hd3⟩ := fl3.there
  have nfr : a ∉ frs (X.env :: X.outer) := fun hm => by
    obtain ⟨_, o', e', hnf⟩ := fl3.2.2.1.mem hm
    rw [he3] at e'
    cases e'
    exact hnf _ hd3
  have nB : B.get? a = none := fl3.2.1
  have nL : a ≠ X.env.locals := fun z => nfr (List.mem_filterMap.mpr ⟨X.env, List.mem_cons_self, by rw [hf, z]⟩)
  have nF : a ∉ X.fs := fun hm => by
    obtain ⟨e, he, q⟩ := List.mem_filterMap.mp hm
    exact nfr (List.mem_filterMap.mpr ⟨e, List.mem_cons_of_mem _ he, q⟩)
  have nI : ∀ o, sI.heap.get? a ≠ some o := fun o e => by
    have := nb a o e (by rw [hs]; exact nfr)
    rw [nB] at this
    cases this
  have h0 : X.s_0.heap.get? a = none := by
    cases q : X.s_0.heap.get? a with
    | none => rfl
    | some o =>
      obtain ⟨o', e⟩ := J.base.there a o q (by rw [hex]; intro z; cases z)
      exact absurd e (nI o')
  have np' : ∀ p ∈ X.pn ++ pins, p.1 ≠ a := fun p hp z => nI p.2 (by rw [← z]; exact (J.pin p hp).1)
  have S3 := J3.suite he3 hd3 na nL nF
  refine wpAny_handleBy_cons (codeAny_handlers_test ?_) (by intro q; cases q)
  have LT : PySem.W.Looks (model X.prog X.w) h3 (typeOf (.ref a)) cls := fun A Q E s k q => wpAny_typeOf_ref (k _ _ he3) (by rw [hz3.1]; exact q)
  have LM := PySem.W.exm_one (M := model X.prog X.w) (J3.kIn) LT hm
  have test : ∀ {Q : Value → Shared → Prop} {E : Value → Shared → Prop}, Q c { s' with heap := h3 } → wpAny (model X.prog X.w) (X.A.mark (some (.ref a))) (eval (.Name x np) X.env) Q E { s' with heap := h3 } := fun {Q E} q => by
    obtain ⟨hg, hdbg, hm | ⟨hm, hv, hnn⟩⟩ := hc
    · exact ld_glob (X := X.suite a ((a, oe3) :: (X.pn ++ pins))) S3 hg hm q hdbg
    · exact ld_blt (X := X.suite a ((a, oe3) :: (X.pn ++ pins))) S3 hg hm hv q hnn hdbg
  refine test (LM.here (codeAny_handlers_suite_as ?_))
  refine HandSPX.lands_againZ fl3 fun h4 fl4 up4 => ?_
  have J4 : Inv X pins σ' H' { s' with heap := h4 } := J.landed nb fl4.1 ((up.trans up3).trans up4) os ag
  obtain ⟨oe4, vs4, he4, hz4, hd4⟩ := fl4.there
  refine store_ok (X := X.suite a ((a, oe4) :: (X.pn ++ pins))) (v := .ref a) (J4.suite he4 hd4 na nL nF) hN hi (.inl hln) rfl (fun s5 S5 => ?_) (.inr hln)
  refine wpAny_mono ((hsu a oe4 cls (X.pn ++ pins)).run [] s5 _ H' _ S5 (hyes a na)) (fun f s6 hsp => ?_) (fun _ _ z => False.elim z)
  cases f with
  | next =>
    obtain ⟨σ6, H6, S6, q6⟩ := hsp
    obtain ⟨e6, n6, _⟩ := S6.pin (a, oe4) (List.mem_append.mpr (.inl List.mem_cons_self))
    have T6 := adopt (S6.unsuite ok) n6 e6 hz4.1 hz4.2 hd4 h0 nL np'
    exact gone_ok T6 hN hi hln fun s7 J7 => ⟨_, _, J7, q6 n6⟩
  | ret u =>
    obtain ⟨_, _, _, _, _, z⟩ := hsp
    exact z.elim
  | _ =>
    obtain ⟨_, _, _, z⟩ := hsp
    exact z.elim
end
/-! ### isinstance of such an exception -/
def rIsZ (K : PySem.W.Frag) : List V → Hp → VK → Prop := fun xs H Q => ∃ (a D : Addr) (c : V) (cv : Value) (b : Bool), xs = [.ref a, c] ∧ H a = some (ExZ (.ref D) a) ∧ ExcC K D ∧ (∀ u, RelV c u → u = cv) ∧ PySem.W.kitOne K (.ref D) cv = some b ∧ Q (.bl b) H
theorem call_isZ {X : Cx} : CallR X (.builtin "isinstance") (rIsZ X.K) := by
  intro pins s σ H xs us Q I r h
  obtain ⟨a, D, c, cv, b, rfl, ha, C, hcv, e, q⟩ := h
  obtain ⟨u, w', rfl, rx, rt⟩ := vals2 r
  cases rx
  have ec := hcv _ rt
  subst ec
  obtain ⟨⟨oe, vs, hget, h1, h2, hv⟩, _, _⟩ := I.hok a _ ha
  have J : PySem.W.InstAt s.heap a oe D none := by
    obtain ⟨oc, od, oda, osl⟩ := oe
    dsimp only at h1 h2 hv
    subst h1 h2 hv
    exact ⟨hget, rfl, rfl, trivial⟩
  exact PySem.W.kia_one (PySem.W.handS_kitx_exc C.hg C.hk C.hs C.hd C.ha C.hn C.ht C.hm) I.kIn J e (fun z => nomatch z) fun tk => ⟨.bl b, H, I.kept (t' := tk) fun _ _ z => z, rfl, q⟩
theorem call_isZK (K : PySem.W.Frag) {X : Cx} (h : X.K = K := by rfl) : CallR X (.builtin "isinstance") (rIsZ K) := h ▸ call_isZ
end DL

/-! A lambda without parameters, handed to a def that calls it; where its code object lies is told exactly. -/
namespace DL
open PySem L2 PySem.Spec PyProof.Rows LamX
/-- the table at P: each code object that it tells bears the name q -/
def TabQ (H : Hp) (P : Addr) (q : Str) (ps : Array Value) : Prop := H P = some (.tbl ps) ∧ TriplesOk ps.toList ∧ ∀ (pos : Pos) (cv : Value), codeAmong pos ps.toList = some cv → ∃ c, cv = .ref c ∧ H c = some (CodeO c q)
/-- what the making of a lambda does: nothing, or its code object is new and stands in the table -/
def LamStep (P : Addr) (q : Str) (H H1 : Hp) (c' : Addr) : Prop :=
  (H1 = H ∧ ∃ (ps : Array Value) (pos : Pos), H P = some (.tbl ps) ∧ codeAmong pos ps.toList = some (.ref c')) ∨
  ∃ ps more : Array Value, H P = some (.tbl ps) ∧ H c' = none ∧ H1 = upd (upd H P (.tbl (ps ++ more))) c' (CodeO c' q) ∧ TriplesOk (ps ++ more).toList ∧ ∀ (pos : Pos) (cv : Value), codeAmong pos (ps ++ more).toList = some cv → codeAmong pos ps.toList = some cv ∨ cv = .ref c'
section
variable {X : Cx} {pins : List (Addr × Obj)} {σ : L2.St} {H : Hp} {s : Shared}
theorem lam_make3 {c P : Addr} {params : Arguments} {body : Expr} {scope : Scope} {pos : Pos} {E : Value → Shared → Prop} {Q : Value → Shared → Prop} (I : Inv X pins σ H s) (TB : TabB X.base X.mg c P) (hcode : X.env.code = .ref c)
    (hT : ∃ ps, TabQ H P (X.env.qual ++ "<lambda>") ps) (hdef : defaultsOf params X.env = ([], [])) (hfree : ∀ y ∈ scope.names, y.2 = .free → ∃ c, X.env.cells.lookup y.1 = some c)
    (h : ∀ (f c' : Addr) (pm ctv : Value) (H1 : Hp) (s' : Shared), Inv X pins σ H1 s' → LamStep P (X.env.qual ++ "<lambda>") H H1 c' →
      s'.heap.get? f = some (PySem.W.kla_obj "<lambda>" (X.env.qual ++ "<lambda>") params body scope (cloFrom X.env.cells scope.names []) pm c' ctv) → H1 f = none → f ∉ frs X.stack → H1 c' = some (CodeO c' (X.env.qual ++ "<lambda>")) → Q (.ref f) s') :
    wpAny (model X.prog X.w) X.A (eval (.Lambda params body scope pos) X.env) Q E s := by
  obtain ⟨ps, hP, ht, ha⟩ := hT
  have tabO : s.heap.get? P = some { cls := .none, data := .fields ps } := I.hok P _ hP
  have far : ∀ f, s.heap.objs.size ≤ f → f ∉ frs X.stack ∧ H f = none := fun f hf => by
    refine ⟨fun z => ?_, I.hok.fresh hf⟩
    rcases List.mem_cons.mp (I.stkSub _ z) with e | e
    · have h1 := I.lt
      rw [← e] at h1
      exact absurd h1 (Nat.not_lt.mpr hf)
    · exact I.nofs hf e
  refine PySem.W.kla_eval hdef ?_
  cases hc : codeAmong pos ps.toList with
  | some cv =>
    obtain ⟨c', rfl, hco⟩ := ha pos cv hc
    refine PySem.W.kla_makeFunctionHit (closure_ok hfree) I.ok.glob (I.mod.glob.keeps I.bk) hcode (TB.code.keeps I.bk) tabO ht hc (TB.bm.keeps I.bk) fun ctv h' tk hx hsz => ?_
    exact h h'.objs.size c' _ ctv H _ (I.kept (t' := tk) fun b o e => Heap.get?_push_of_some _ (hx b o e)) (.inl ⟨rfl, ps, pos, hP, hc⟩) (Heap.get?_push_size _ rfl) (far _ hsz).2 (far _ hsz).1 hco
  | none =>
    refine PySem.W.kla_makeFunction (closure_ok hfree) I.ok.glob (I.mod.glob.keeps I.bk) hcode (TB.code.keeps I.bk) tabO ht hc TB.gP (TB.bm.keeps I.bk) fun c' ctv h' tk hx hge hlt hrec htb => ?_
    obtain ⟨c2, oc, vs, t, e2, hoc, hd, hv⟩ := hrec
    cases e2
    have hsz : s.heap.objs.size ≤ h'.objs.size := Nat.le_trans hge (Nat.le_of_lt hlt)
    have eL : (ps ++ #[rawInt pos.line, rawInt pos.col, .ref c']).toList = ps.toList ++ [rawInt pos.line, rawInt pos.col, .ref c'] := by simp
    have I1 := inv_table (t' := tk) (more := #[rawInt pos.line, rawInt pos.col, .ref c']) (h' := h'.push (PySem.W.kla_obj "<lambda>" (X.env.qual ++ "<lambda>") params body scope (cloFrom X.env.cells scope.names []) ((X.mg "__name__").getD .none) c' ctv)) I hP
      (fun b o hb e => Heap.get?_push_of_some _ (hx b o hb e)) (Heap.get?_push_of_some _ htb) hge ⟨oc, vs, t, Heap.get?_push_of_some _ hoc, hd, hv⟩
    refine h h'.objs.size c' _ ctv _ _ I1 (.inr ⟨ps, _, hP, I.hok.fresh hge, rfl, ?_, fun p' cv hcv => ?_⟩) (Heap.get?_push_size _ rfl) ?_ (far _ hsz).1 upd_same
    · rw [eL]; exact PySem.TriplesOk_snoc _ _ _ _ ht
    · rw [eL] at hcv
      exact among_app _ ht hcv
    · rw [upd_ne (Nat.ne_of_gt hlt), upd_ne (Nat.ne_of_gt (Nat.lt_of_lt_of_le (Heap.lt_size tabO) hsz))]
      exact (far _ hsz).2
end
/-- the call's reading: the function stands in slot 0, its code object is known; t: its body's, told by what takes its exceptions -/
def tWork (f c' : Addr) (q : Str) (t : XK → TE) (σ : L2.St) : WX → TE := fun W σZ HZ Q => σZ[0]? = some (some (.ref f)) ∧ HZ c' = some (CodeO c' q) ∧ t (fun cls d H' => W cls d σZ H') σ HZ Q
section
variable {X : Cx} {pins : List (Addr × Obj)} {σ : L2.St} {H : Hp} {s : Shared}
/-- work(), in the def that got the lambda -/
theorem pe_work {Ng : List Str} {qg : Str} {sg : Scope} {g f c' : Addr} {cdg pm ctv : Value} {params : Arguments} {body : Expr} {scope : Scope} {k : Nat} {a : Str} {pn : List (Addr × Obj)} {xe : Value → Shared → Prop} {W : WX} {t : XK → TE} {p1 p2 : Pos}
    (I : Inv X pins σ H s) (L : LamS X.env.scope scope) (hf : s.heap.get? f = some (PySem.W.kla_obj "<lambda>" (X.env.qual ++ "<lambda>") params body scope (cloFrom X.env.cells scope.names []) pm c' ctv)) (hfn : H f = none) (hfr : f ∉ frs X.stack)
    (hbind : bindArgs (PySem.W.kla_fn "<lambda>" (X.env.qual ++ "<lambda>") params body scope (cloFrom X.env.cells scope.names []) pm (.ref c') ctv) ⟨[], []⟩ = pure [])
    (tk : Takes ((cxOf L2.CX0 X.prog X.w X.K X.mg X.base Ng qg sg g cdg X.A X.stack s H L2.E0).tr pn xe) W) (hr : Room (k + 1) (X.A.deeper (envOfC qg sg s.heap.objs.size g cdg)))
    (hbody : ∀ (A : Around) (outer : List Env) (s : Shared) (H : Hp) (E : XK), Room k (A.deeper (lamEnv X scope s.heap.objs.size f c')) → PE (lamCx X A outer s H E scope f c') body (t E))
    (hN : Ng[0]? = some a) (hv : Vis sg a) (hd : (a == ("__debug__" : Str)) = false) (hcd : (a == ("__classdict__" : Str)) = false) :
    PE ((cxOf L2.CX0 X.prog X.w X.K X.mg X.base Ng qg sg g cdg X.A X.stack s H L2.E0).tr pn xe) (.Call (.Name a p1) [] [] p2) (tWork f c' (X.env.qual ++ "<lambda>") t σ W) := by
  refine ⟨fun pinsZ sZ σZ HZ Q IZ h => ?_⟩
  obtain ⟨hs, hc, ht⟩ := h
  refine wpAny_Call_Name_kw (thn ((pe_var (pos := p1) (i := 0) hN hv hd hcd).run pinsZ sZ σZ HZ (fun v H1 => v = .ref f ∧ H1 = HZ) IZ ⟨.ref f, hs, rfl, rfl⟩) fun u s1 hh => ?_)
  obtain ⟨v, H1, I1, r1, rfl, rfl⟩ := hh
  obtain rfl : u = Value.ref f := r1
  have un : Un (frs X.stack) [] H H1 s.heap s1.heap := I1.base
  have of1 := un.keep f _ hf hfn hfr (fun z => nomatch z)
  obtain ⟨⟨oc, vs, tt, hoc, hdc, hvc⟩, _, _⟩ := I1.hok c' _ hc
  refine PySem.W.callWith_F0 ⟨_, _, _, _, of1⟩ ?_
  have rc : codeAny (model X.prog X.w) (X.A.deeper (envOfC qg sg s.heap.objs.size g cdg)) (.call (.ref f) ⟨[], []⟩) (CR (L2.CX X.prog X.w) (envOfC qg sg s.heap.objs.size g cdg :: X.stack) X.prog X.w H1 s1 Q (fun cls d H' => W cls d σZ H')) s1 := by
    refine PySem.W.kla_callFunE hr.depth of1 rfl L.co L.gen rfl ⟨c', oc, vs, tt, rfl, hoc, hdc, hvc⟩ ?_
    rw [hbind]
    refine wpAny_pure (wpAny_newFunctionEnv (fun y hy => (L.own y hy).2) (fun y hy => absurd hy (by simp)) (fun h₁ hns hsb => ⟨I1.nolimit.fresh _ hsb, ?_⟩) L.kind)
    have kp : ∀ b o, s1.heap.get? b = some o → h₁.get? b = some o := fun b o e => hsb.extBut b o (Nat.ne_of_lt (Heap.lt_size e)) (Heap.get?_push_of_some _ e)
    refine PySem.W.kla_codeExpr (wpAny_mono ((hbody _ _ s1 H1 _ (hr.deeper _)).run [] _ σ H1 Q (lam_start2 I L I1.env0 hr.hd un hns kp) ht) (fun v s' hq => ?_) fun e s' hq => hq)
    obtain ⟨w', H', J', rv, q⟩ := hq
    exact ⟨w', H', J'.os, J'.bare, J'.base, J'.hok, rv, q⟩
  refine wpAny_call (codeAny_mono rc fun r s' hq => ?_)
  cases r with
  | error e => exact passAt tk σZ pinsZ H1 s1 e s' I1 hq
  | ok fl =>
    cases fl with
    | ret u => exact I1.after hq
    | _ => exact False.elim hq
end
/-- the def that calls what it got, whatever that is: hole, the reading of its call -/
def GivesW (P : Program) (w : World) (K : PySem.W.Frag) (mg : Str → Option Value) (base : Heap) (A : Around) (st : List Env) (k : Nat) (Ng : List Str) (x : Str) (sg : Scope) (g : Addr) (cdg : Value) (bg : List Stmt) (a : Str) (Sc : (WX → TE) → TS → Prop) : Prop :=
  ∀ (s : Shared) (H : Hp) (hole : WX → TE), Room k (A.deeper (envOfC x sg s.heap.objs.size g cdg)) →
    (∀ (W : WX) (pn : List (Addr × Obj)) (xe : Value → Shared → Prop) (p1 p2 : Pos), Takes ((cxOf L2.CX0 P w K mg base Ng x sg g cdg A st s H L2.E0).tr pn xe) W →
      PE ((cxOf L2.CX0 P w K mg base Ng x sg g cdg A st s H L2.E0).tr pn xe) (.Call (.Name a p1) [] [] p2) (hole W)) →
    ∃ tb, PSs (cxOf L2.CX0 P w K mg base Ng x sg g cdg A st s H L2.E0) bg tb ∧ Sc hole tb
/-- x(lambda: body) -/
def tLamW (P : Addr) (q : Str) (Ng : List Str) (Sc : (WX → TE) → TS → Prop) (t : XK → TE) : TE := fun σ H Q => (∃ ps, TabQ H P q ps) ∧ ∀ (H1 : Hp) (f c' : Addr), LamStep P q H H1 c' → H1 c' = some (CodeO c' q) → ∀ tb, Sc (tWork f c' q t σ) tb → tb { nx := fun _ H' => Q .non H', rt := Q } (L2.start Ng [.ref f]) H1
theorem pe_lamW {X : Cx} {Sc : (WX → TE) → TS → Prop} {x a : Str} {g c P : Addr} {k : Nat} {pg : Arguments} {bg : List Stmt} {sg : Scope} {dV kV doc pm cdv ct oc : Value} {an od : Option Addr} {osl : Array (Option Value)} {Ng : List Str}
    {params : Arguments} {body : Expr} {scope : Scope} {t : XK → TE} {p lpos pos : Pos} (hg : Gl X x) (hm : X.mg x = some (.ref g)) (hk : PySem.W.keepIn X.K (.ref g) = true)
    (lk : X.K.lookup g = some ⟨oc, od, .func (PySem.W.fnOf x x pg bg sg dV kV doc pm an cdv ct), osl⟩) (hcg : PySem.W.codeIn X.K cdv x = true) (hb : L2.Binds X.K (PySem.W.fnOf x x pg bg sg dV kV doc pm an cdv ct) [a] []) (Sg : FnScope Ng [a] sg) (hNg : Ng[0]? = some a) (hva : Vis sg a)
    (hG : GivesW X.prog X.w X.K X.mg X.base X.A X.stack (k + 1) Ng x sg g cdv bg a Sc)
    (TB : TabB X.base X.mg c P) (hcode : X.env.code = .ref c) (hr : Room (k + 2) X.A) (L : LamS X.env.scope scope) (hdef : defaultsOf params X.env = ([], []))
    (hbind : ∀ (q : Str) (cl : List (Str × Addr)) (pm cv ctv : Value), bindArgs (PySem.W.kla_fn "<lambda>" q params body scope cl pm cv ctv) ⟨[], []⟩ = pure [])
    (hbody : ∀ (A : Around) (outer : List Env) (s : Shared) (H : Hp) (E : XK) (f c' : Addr), Room k (A.deeper (lamEnv X scope s.heap.objs.size f c')) → PE (lamCx X A outer s H E scope f c') body (t E))
    (hdb : (x == ("__debug__" : Str)) = false := by decide) (hd : (a == ("__debug__" : Str)) = false := by decide) (hcd : (a == ("__classdict__" : Str)) = false := by decide) :
    PE X (.Call (.Name x p) [.Lambda params body scope lpos] [] pos) (tLamW P (X.env.qual ++ "<lambda>") Ng Sc t) := by
  refine ⟨fun pins s σ H Q I h => ?_⟩
  obtain ⟨hT, h⟩ := h
  refine wpAny_Call_Name_kw (ld_glob I hg hm ?_ hdb)
  refine PySem.W.callWith_K (h₀ := X.base) I.ok.mod.kin hk ?_ (by rfl) (by rfl)
  show wpAny _ _ (spliced ((false, eval (.Lambda params body scope lpos) X.env) :: backTo pos (starEach [] X.env))) _ _ s
  refine Calls.spliced_cons (lam_make3 I TB hcode hT hdef (L.has I.ok) fun f c' pm' ctv H1 s' I1 st hf hfn hfr hco => Calls.spliced_nil ⟨I1.kIn, ?_⟩)
  have rc : codeAny (model X.prog X.w) X.A (.call (.ref g) ⟨[.ref f], []⟩) (CR L2.CX0 X.stack X.prog X.w H1 s' Q L2.E0) s' :=
    run_ofS (N := Ng) (ps := [a]) (us := [.ref f]) (vs := [.ref f]) lk hcg Sg hr I1.env0 (hb s' [.ref f] I1.kIn rfl) (.cons rfl .nil) rfl fun hr' => by
      obtain ⟨tb, h1, h2⟩ := hG s' H1 (tWork f c' (X.env.qual ++ "<lambda>") t σ) hr' fun W pn xe p1 p2 tk => pe_work I1 L hf hfn hfr (hbind _ _ _ _ _) tk hr' (fun A outer s H E hr2 => hbody A outer s H E f c' hr2) hNg hva hd hcd
      exact ⟨tb, h1, h H1 f c' st hco tb h2⟩
  refine wpAny_call (codeAny_mono rc fun r s2 hq => ?_)
  cases r with
  | error e => exact (show False from hq).elim
  | ok fl =>
    cases fl with
    | ret u => exact I1.after hq
    | _ => exact False.elim hq
end DL

/-! Lambdas and kept exceptions, in the data layer. -/
namespace DL
open PySem L2 PySem.Spec PyProof.Rows LamX
section
variable {K : PySem.W.Frag} {A : Amb} {S : List SV} {R R' : List (Addr × Cell)} {F F0 F1 H H1 : Hp} {k : KA}
theorem at_from (a : AtR K A R F H) (e : Same F0 F) : AtR K ⟨A.I.from F0, A.cells⟩ R F H := ⟨At.same a, ⟨At.blk (A := ⟨A.I, A.cells ++ R⟩) a, e⟩, fun c hc => At.bfree (A := ⟨A.I, A.cells ++ R⟩) a c hc, fun p c h => At.cell (A := ⟨A.I, A.cells ++ R⟩) a p c h, At.nd (A := ⟨A.I, A.cells ++ R⟩) a⟩
theorem at_of (a : AtR K ⟨A.I.from F0, A.cells⟩ R F H) : AtR K A R F H ∧ Same F0 F := by
  obtain ⟨b1, b2⟩ := At.blk (A := ⟨A.I.from F0, A.cells ++ R⟩) a
  exact ⟨⟨At.same a, b1, fun c hc => At.bfree (A := ⟨A.I.from F0, A.cells ++ R⟩) a c hc, fun p c h => At.cell (A := ⟨A.I.from F0, A.cells ++ R⟩) a p c h, At.nd (A := ⟨A.I.from F0, A.cells ++ R⟩) a⟩, b2⟩
/-- one ambient holds all of another's -/
def Holds (K : PySem.W.Frag) (B A : Amb) : Prop := ∀ R F H, AtR K B R F H → ∃ R', AtR K A R' F H
theorem Holds.refl : Holds K A A := fun R F H a => ⟨R, a⟩
/-! ### try .. except X as n -/
def tTryZ (K : PySem.W.Frag) (c : Value) (i : Nat) (ts : Addr → Value → TS) (tb : WX → TS) : TS := fun D σ H => tb (wAsZ K c i ts D) D σ H
theorem sd_none : ∀ {σ : L2.St} {S : List SV} {i : Nat}, SD K F σ S → SD K F (σ.set i none) (S.set i .no)
  | _, _, _, .nil => by simpa using (Paired.nil : SD K F [] [])
  | _, _, 0, .cons _ t => .cons (.inl rfl) t
  | _, _, i + 1, .cons h t => .cons h (sd_none t)
theorem sd_ptr {a : Addr} : ∀ {σ : L2.St} {S : List SV} {i : Nat}, SD K F σ S → SD K F (σ.set i (some (.ref a))) (S.set i (.ptr a))
  | _, _, _, .nil => by simpa using (Paired.nil : SD K F [] [])
  | _, _, 0, .cons _ t => .cons (.inr ⟨_, rfl, rfl⟩) t
  | _, _, i + 1, .cons h t => .cons h (sd_ptr t)
theorem go_tryZ {E : DE} {c : Value} {i : Nat} {ts : Addr → Value → TS} {tb : WX → TS} (X1 : Value → List SV → Prop) (P1 : List SV → Prop)
    (hb : ∀ (B : Amb) (W : WX), Holds K B A → (∀ cls S1, X1 cls S1 → ∀ R F σ H, AtR K B R F H → SD K F σ S1 → W cls none σ H) → Go K B (tb W) S ⟨fun A1 S1 => A1 = B ∧ P1 S1, fun _ _ => False, fun _ _ => False, fun _ _ => False⟩)
    (hn : ∀ S1, P1 S1 → E.nx A S1)
    (hx : ∀ cls S1, X1 cls S1 → PySem.W.exmOne K cls c = some true ∧ ∀ a, Go K A (ts a cls) (S1.set i (.ptr a)) ⟨fun A1 S2 => E.nx (A1.add a (.exc cls)) (S2.set i .no), fun _ _ => False, fun _ _ => False, fun _ _ => False⟩) : Go K A (tTryZ K c i ts tb) S E := fun R F σ H D a sd o => by
  refine hb ⟨A.I.from F, A.cells ++ R⟩ (wAsZ K c i ts D) (fun R1 F1 H1 a1 => ⟨R, (at_out (List.Sublist.refl _) a1).1⟩) (fun cls S1 h1 R1 F1 σ1 H1 a1 sd1 => ?_) [] F σ H D (at_in a) sd ⟨fun A1 S1 F1 σ1 H1 h1 e1 a1 sd1 => ?_, fun A1 S1 F1 σ1 H1 h1 => h1.elim, fun A1 S1 F1 σ1 H1 h1 => h1.elim, fun A1 s1 v F1 H1 h1 => h1.elim⟩
  · obtain ⟨he, hg⟩ := hx cls S1 h1
    obtain ⟨a2, e2⟩ := at_out (List.Sublist.refl _) a1
    refine ⟨rfl, he, fun b hb => hg b R F1 _ H1 _ a2 (sd_ptr sd1) ⟨fun A3 S3 F3 σ3 H3 h3 e3 a3 sd3 hn => ?_, fun _ _ _ _ _ h3 => h3.elim, fun _ _ _ _ _ h3 => h3.elim, fun _ _ _ _ _ h3 => h3.elim⟩⟩
    exact o.nx _ _ F3 _ _ h3 (e2.trans e3) (a3.new (c := .exc cls) hn upd_same) (sd_none sd3)
  · obtain ⟨rfl, hp⟩ := h1
    exact o.nx A S1 F1 σ1 H1 (hn S1 hp) e1 (at_out (List.Sublist.refl _) a1).1 sd1
/-! ### isinstance of a kept exception -/
theorem wp_isZ {te : TE} {c : V} {cv : Value} (hcv : ∀ u, RelV c u → u = cv) (h : Wp K A te S fun A1 s => ∃ a D b, s = .ptr a ∧ (a, .exc (.ref D)) ∈ A1.cells ∧ ExcC K D ∧ PySem.W.kitOne K (.ref D) cv = some b ∧ k A1 (.dat (.bool b))) : Wp K A (tCB (rIsZ K) (tCons te (tCons (tC c) tNil))) S k := fun R F σ H Q a sd q =>
  h R F σ H _ a sd fun A1 s v F1 H1 ⟨x, D, b, hs, hx, C, hk, hq⟩ e1 a1 r1 => by
    subst hs
    obtain rfl : v = .ref x := r1
    exact ⟨x, D, c, cv, b, rfl, a1.cell hx, C, hcv, hk, q A1 _ _ F1 H1 hq e1 a1 (.bl _)⟩
/-! ### x(lambda: body) -/
theorem upd_self {p : Addr} {c : Cell} : ∀ {l : List (Addr × Cell)}, (p, c) ∈ l → Upd l p c c l
  | x :: l, h => by
    by_cases e : x = (p, c)
    · subst e; exact .head
    · exact .tail (upd_self ((List.mem_cons.mp h).resolve_left fun z => e z.symm))
theorem upd_comm {p q : Addr} {x y : HO} (h : p ≠ q) : upd (upd H p x) q y = upd (upd H q y) p x := by
  funext b
  by_cases e1 : b = q
  · subst e1
    rw [upd_same, upd_ne (fun z => h z.symm), upd_same]
  · rw [upd_ne e1]
    by_cases e2 : b = p
    · subst e2
      rw [upd_same, upd_same]
    · rw [upd_ne e2, upd_ne e2, upd_ne e1]
theorem at_lam {P c' : Addr} {q : Str} (hP : (P, .tab fun c => CodeO c q) ∈ A.cells) (a : AtR K A R F H) (st : LamStep P q H H1 c') : ∃ F1, Same F F1 ∧ AtR K A R F1 H1 ∧ F1 c' = some (CodeO c' q) := by
  obtain ⟨ps, h1, h2, h3⟩ := a.cell hP
  rcases st with ⟨rfl, ps', pos, h4, h5⟩ | ⟨ps', more, h4, h5, rfl, h6, h7⟩
  · rw [h1] at h4
    cases h4
    obtain ⟨c, e1, e2⟩ := h3 pos _ h5
    cases e1
    exact ⟨F, Same.refl F, a, e2⟩
  · rw [h1] at h4
    cases h4
    have nP : P ≠ c' := ne_of_none h1 h5
    obtain ⟨a2, e2⟩ := a.alloc (o := CodeO c' q) h5
    refine ⟨_, e2, ?_, upd_same⟩
    rw [upd_comm nP]
    refine a2.put (c' := .tab fun c => CodeO c q) (upd_self hP) ⟨_, upd_same, h6, fun pos cv hc => ?_⟩
    rcases h7 pos cv hc with z | z
    · obtain ⟨c, w1, w2⟩ := h3 pos cv z
      exact ⟨c, w1, e2 _ _ w2⟩
    · exact ⟨c', z, upd_same⟩
theorem wp_lamW {P : Addr} {q : Str} {Ng : List Str} {Sc : (WX → TE) → TS → Prop} {t : XK → TE} (hP : (P, .tab fun c => CodeO c q) ∈ A.cells) (hN : 0 < Ng.length)
    (h : ∀ (I : Blk) (hole : WX → TE) (f : Addr) (tb : TS), Sc hole tb →
      (∀ (B : Amb) (W : WX) (SW : List SV) (X1 : Value → Prop) (k1 : SV → Prop), Holds K B ⟨I, A.cells⟩ → SW[0]? = some (.ptr f) →
        (∀ (B' : Amb) (E : XK), (∀ cls, X1 cls → ∀ R F H, AtR K B' R F H → E cls none H) → Wp K B' (t E) S fun A1 s => A1 = B' ∧ k1 s) →
        (∀ cls, X1 cls → ∀ R F σ H, AtR K B R F H → SD K F σ SW → W cls none σ H) → Wp K B (hole W) SW fun A1 s => A1 = B ∧ k1 s) →
      Go K ⟨I, A.cells⟩ tb (.ptr f :: List.replicate (Ng.length - 1) .no) ⟨fun A1 _ => A1 = ⟨I, A.cells⟩ ∧ k A (.dat .none), fun _ _ => False, fun _ _ => False, fun A1 s => A1 = ⟨I, A.cells⟩ ∧ k A s⟩) :
    Wp K A (tLamW P q Ng Sc t) S k := fun R F σ H Q a sd qq => by
  refine ⟨?_, fun H1 f c' st hc tb hsc => ?_⟩
  · obtain ⟨ps, h1, h2, h3⟩ := a.cell hP
    exact ⟨ps, h1, h2, fun pos cv hcv => by
      obtain ⟨c, w1, w2⟩ := h3 pos cv hcv
      exact ⟨c, w1, a.same _ _ w2⟩⟩
  · obtain ⟨F1, e1, a1, hF⟩ := at_lam hP a st
    have sd1 : SD K F1 (L2.start Ng [.ref f]) (.ptr f :: List.replicate (Ng.length - 1) .no) := SD.start Ng (ss := [.ptr f]) (.cons rfl .nil)
    refine h (A.I.from F1) (tWork f c' q t σ) f tb hsc (fun B W SW X1 k1 hB hS hl hW => ?_) R F1 _ H1 _ (at_from a1 (Same.refl F1)) sd1 ⟨fun A2 S2 F2 σ2 H2 h2 e2 a2 _ => ?_, fun _ _ _ _ _ z => z.elim, fun _ _ _ _ _ z => z.elim, fun A2 s2 v2 F2 H2 h2 e2 a2 r2 => ?_⟩
    · intro R2 F2 σ2 H2 Q2 a2 sd2 q2
      obtain ⟨R3, a3⟩ := hB R2 F2 H2 a2
      obtain ⟨a4, e4⟩ := at_of a3
      obtain ⟨v, hv, r⟩ := sd2.get hS (by intro z; cases z)
      obtain rfl : v = .ref f := r
      refine ⟨hv, a4.same _ _ (e4 _ _ hF), ?_⟩
      refine hl ⟨B.I.from F2, B.cells⟩ _ (fun cls hc R5 F5 H5 a5 => ?_) R2 F2 σ H2 Q2 (at_from a2 (Same.refl F2)) ((sd.mono e1).mono e4) fun A5 s5 v5 F5 H5 h5 e5 a5 r5 => ?_
      · obtain ⟨a6, e6⟩ := at_of a5
        exact hW cls hc R5 F5 σ2 H5 a6 (sd2.mono e6)
      · obtain ⟨rfl, hk⟩ := h5
        exact q2 B s5 v5 F5 H5 ⟨rfl, hk⟩ e5 (at_of a5).1 r5
    · obtain ⟨rfl, hk⟩ := h2
      exact qq A _ _ F2 H2 hk (e1.trans e2) (at_of a2).1 .non
    · obtain ⟨rfl, hk⟩ := h2
      exact qq A s2 v2 F2 H2 hk (e1.trans e2) (at_of a2).1 r2
end
end DL

/-! The top of a law whose own body makes lambdas: its code object's table is an owned cell from the start. -/
namespace DL
open PySem L2 PySem.Spec PyProof.Rows LamX
/-- the name of the lambdas in the def qual -/
abbrev lamQ (qual : Str) : Str := qual ++ ".<locals>." ++ "<lambda>"
abbrev tabC (q : Str) : Cell := .tab fun x => CodeO x q
/-- the body of the law's def is a term whose reading goes, whatever the script; c: its code object, T: the table -/
def LawGoT (P : Program) (w : World) (K : PySem.W.Frag) (mg : Str → Option Value) (fa c T : Addr) (qual : Str) (st : Stmt) (N : List Str) (n m : Nat) : Prop :=
  ∀ (base : Heap) (A : Around) (outer : List Env) (s : Shared) (H : Hp) (E : XK), TabB base mg c T → Room n (A.deeper (envOfC qual (defScope st) s.heap.objs.size fa (.ref c))) →
    ∃ t, PSs (cxOf L2.CX0 P w K mg base N qual (defScope st) fa (.ref c) A outer s H E).nox (defBody st) t ∧
      ∀ ns : List Int, ns.length ≤ m → (∀ z ∈ ns, Builtin.Int.intBits z ≤ 1048576) → Go K ⟨Blk.nil, [(T, tabC (lamQ qual))]⟩ t (.scr ns :: List.replicate (N.length - 1) .no) TopE
/-- the law's promise -/
def spLaw (K : PySem.W.Frag) (T : Addr) (m : Nat) : Sp := fun vs H Q _ => ∃ (a : Addr) (ns : List Int), vs = [.ref a] ∧ ns.length ≤ m ∧ (∀ z ∈ ns, Builtin.Int.intBits z ≤ 1048576) ∧ H T = some (.tbl #[]) ∧ SqL K H a (ns.map V.int) ∧ ∀ H', Q (.bl true) H'
theorem at_tab {K : PySem.W.Frag} {H : Hp} {T : Addr} {q : Str} (hT : H T = some (.tbl #[])) : ∃ F, Same F H ∧ F T = none ∧ (∀ b u, H b = some u → b ≠ T → F b = some u) ∧ At K ⟨Blk.nil, [(T, tabC q)]⟩ F H := by
  refine ⟨fun b => if b = T then none else H b, fun b u e => ?_, if_pos rfl, fun b u e h => (if_neg h).trans e, ?_⟩
  · by_cases h : b = T
    · have e : (if b = T then none else H b) = some u := e
      rw [if_pos h] at e
      cases e
    · have e : (if b = T then none else H b) = some u := e
      rw [if_neg h] at e
      exact e
  · refine ⟨fun b u e => ?_, trivial, fun c hc => by simp [Blk.nil] at hc, fun p c h => ?_, by simp⟩
    · by_cases h : b = T
      · have e : (if b = T then none else H b) = some u := e
        rw [if_pos h] at e
        cases e
      · have e : (if b = T then none else H b) = some u := e
        rw [if_neg h] at e
        exact e
    · simp only [List.mem_cons, List.not_mem_nil, or_false, Prod.mk.injEq] at h
      obtain ⟨rfl, rfl⟩ := h
      exact ⟨if_pos rfl, by simp [Blk.nil], #[], hT, True.intro, fun pos cv hc => by
        have z : codeAmong pos [] = some cv := hc
        simp [codeAmong] at z⟩
theorem law_fnT {P : Program} {w : World} {K : PySem.W.Frag} {mg : Str → Option Value} {base : Heap} {fa c T : Addr} {x qual : Str} {st : Stmt} {N : List Str} {n m : Nat} {kV doc pm ct oc : Value} {an od : Option Addr} {osl : Array (Option Value)}
    (lk : K.lookup fa = some ⟨oc, od, .func (PySem.W.fnOf x qual (defArgs st) (defBody st) (defScope st) .none kV doc pm an (.ref c) ct), osl⟩) (hcd : PySem.W.codeIn K (.ref c) qual = true) (S : FnScope N ["script"] (defScope st)) (TB : TabB base mg c T) (L : LawGoT P w K mg fa c T qual st N n m) :
    FnOk P w K mg base L2.CX0 (n + 1) fa (PySem.W.fnOf x qual (defArgs st) (defBody st) (defScope st) .none kV doc pm an (.ref c) ct) ["script"] (spLaw K T m) := by
  refine fn_of lk hcd S (fun vs H Q E h => ?_) fun A outer s H vs Q E hr h => ?_
  · obtain ⟨a, ns, rfl, _⟩ := h; rfl
  · obtain ⟨a, ns, rfl, hl, hb, hT, hS, q⟩ := h
    obtain ⟨t, ht, go⟩ := L base A outer s H E TB hr
    obtain ⟨F, f1, f2, f3, f4⟩ := at_tab (K := K) (q := lamQ qual) hT
    have hS' : SqL K F a (ns.map V.int) := by
      have ne : ∀ {u}, H a = some u → (∀ ps, u ≠ .tbl ps) → a ≠ T := fun {u} e h z => by
        rw [z, hT] at e
        exact h _ (Option.some.inj e).symm
      rcases hS with (h | ⟨o, h⟩) | h
      · exact .inl (.inl (f3 _ _ h (ne h fun ps z => by cases z)))
      · exact .inl (.inr ⟨o, f3 _ _ h (ne h fun ps z => by cases z)⟩)
      · exact .inr h
    have sd : SD K F (L2.start N [.ref a]) (.scr ns :: List.replicate (N.length - 1) .no) := SD.start N (ss := [.scr ns]) (.cons ⟨a, rfl, hS'⟩ .nil)
    refine ⟨t, ht.nox, go ns hl hb [] F _ H _ f4 sd ⟨fun _ _ _ _ _ h => h.elim, fun _ _ _ _ _ h => h.elim, fun _ _ _ _ _ h => h.elim, fun A s v F' H' h _ _ r => ?_⟩⟩
    have h' : s = .dat (.bool true) := h
    subst h'
    obtain rfl := sr_bl r
    exact q H'
theorem walk_topT {l : PySem.W.OpenLaw} {n m : Nat} {q : Program} {loose : List Str} {XP : (Str → Option Value) → Heap → Prop} {YP : World → Heap → Prop} {d : DefRec} {K : Params → PySem.W.Frag}
    (hn : l.most = some m) (hn2 : m ≤ sizeLine) (hdf : d.params.defaults = []) (hr : Room (n + 1) callerA) (hrec : ((recsOf q).any fun e => e.name == d.name) = true) (hY : ∀ (w : World) (h : Heap), YP w h → (K w.params).In h)
    (F : ∀ (w : World) (mg : Str → Option Value) (fa : Addr) (h : Heap), (K w.params).In h → h.Ns mainGlobals mg → mg d.name = some (.ref fa) →
      ∃ (c T : Addr) (x qual : Str) (st : Stmt) (N : List Str) (kV doc pm ct oc : Value) (an od : Option Addr) (osl : Array (Option Value)),
        (K w.params).lookup fa = some ⟨oc, od, .func (PySem.W.fnOf x qual (defArgs st) (defBody st) (defScope st) .none kV doc pm an (.ref c) ct), osl⟩ ∧ PySem.W.codeIn (K w.params) (.ref c) qual = true ∧ FnScope N ["script"] (defScope st) ∧
        PySem.W.codeHdIn (K w.params) c T = true ∧ (K w.params).lookup T = none ∧
        (∀ (s : Shared) (u : Value), BindsTo s (PySem.W.fnOf x qual (defArgs st) (defBody st) (defScope st) .none kV doc pm an (.ref c) ct) ⟨[u], []⟩ [("script", u)]) ∧ LawGoT l.prog w (K w.params) mg fa c T qual st N n m) :
    PySem.W.WalkO q loose XP YP l.row.toRowW d [] (fun f vs => PySem.call f vs) := by
  refine walk_ofOwn (k := n + 1) (CX := fun _ => L2.CX0) (x := "script") hn hn2 hdf hr hrec hY (fun w mg fa h Y KX G hm own => ?_) fun _ _ _ _ _ h => h
  obtain ⟨c, T, x, qual, st, N, kV, doc, pm, ct, oc, an, od, osl, lk, hcd, S, hh, hT, hb, L⟩ := F w mg fa h KX G hm
  have own' : h.get? T = some { cls := .none, data := .fields #[] } := by
    have hh' := hh
    unfold PySem.W.codeHdIn at hh'
    split at hh'
    · rename_i dd vs sl hc
      simp only [Bool.and_eq_true] at hh'
      refine own c T _ _ _ _ _ _ lk rfl rfl hc ?_
      have h11 := hh'.1.1.1.1.1
      split at h11
      · rename_i P' e11
        rw [e11, beq_iff_eq.mp h11]
      · cases h11
    · cases hh'
  refine ⟨_, [(c, T)], spLaw (K w.params) T m, fun p hp => ?_, fun p hp => ?_, fun p hp => ?_, hb, fun H a ns hl hbits hH hS => ⟨a, ns, rfl, hl, hbits, hH (c, T) (List.mem_singleton.mpr rfl), hS, fun _ => rfl⟩, fun base kb gb TB => law_fnT lk hcd S (TB (c, T) (List.mem_singleton.mpr rfl)) L⟩
  · rw [List.mem_singleton] at hp; subst hp; exact own'
  · rw [List.mem_singleton] at hp; subst hp; exact hT
  · rw [List.mem_singleton] at hp; subst hp; exact PySem.W.codeHd_of_K KX hh
end DL

/-! Lists of truths: marks + [..] as an owned list, count, index; a def that raises, called in a lambda. -/
namespace DL
open PySem L2 PySem.Spec PyProof.Rows
section
variable {X : Cx}
def rCntF (K : PySem.W.Frag) : V → List V → Hp → VK → Prop := fun x xs H Q => ∃ (p : Addr) (ys : List V) (y : V), x = .ref p ∧ xs = [y] ∧ SqL K H p ys ∧ flatV y = true ∧ ys.all flatV = true ∧ Q (.int (ys.countP (fun z => eqV z y) : Nat)) H
theorem count_flat {y : V} : ∀ {ys : List V} {us : List Value}, Vals ys us → ys.all flatV = true → us.countP (eqU y) = ys.countP fun z => eqV z y
  | _, _, .nil, _ => rfl
  | _, _, .cons r t, h => by
    rw [List.all_cons, Bool.and_eq_true] at h
    rw [List.countP_cons, List.countP_cons, count_flat t h.2, eqU_of r h.1]
theorem mt_lcountF : MtR X "list.count" (rCntF X.K) := by
  intro pins s σ H x xs v us Q I rx rxs h
  obtain ⟨p, ys, y, rfl, rfl, hs, fy, fys, q⟩ := h
  cases rx
  obtain ⟨u, rfl, ru⟩ := rxs.one
  obtain ⟨its, rv, ⟨⟨cls, dd, data, sl⟩, n, ho, hc, hdn, hd⟩, hlen⟩ := I.list hs
  simp only at hc hd
  subst hc hd
  refine call_meets PySem.F.slot_list_count ⟨_, ho, rfl⟩ PySem.F.entry_list_count (PySem.F.args_list_count_2 _ _)
    (SeqAt.list_countAt p its.toArray n dd sl u (eqU y)) ⟨ho, fun u' hu' => mem_eqAt ru fy rv fys u' (by simpa using hu'), ?_⟩
  refine ⟨.int (ys.countP (fun z => eqV z y) : Nat), H, I.tok _, ⟨s.toks, ?_⟩, q⟩
  show Value.int ((its.toArray.toList.countP (eqU y) : Nat) : Int) s.toks = _
  rw [show its.toArray.toList.countP (eqU y) = _ from count_flat rv fys]
theorem mt_lcountFK (K : PySem.W.Frag) (h : X.K = K := by rfl) : MtR X "list.count" (rCntF K) := h ▸ mt_lcountF
end
section
variable {K : PySem.W.Frag} {A : Amb} {S : List SV} {k : KA} {to te : TE} {ta : TA}
theorem rw_catO {ds es : List PyData} (hl : ds.length + es.length ≤ sizeLine) (h : ∀ p, k (A.add p (.lst ((ds ++ es).map .dat))) (.ptr p)) : RW K rCat (.dat (.list ds)) (.dat (.list es)) A k := fun R F H v w Q a r1 r2 q => by
  obtain ⟨p, xs, rfl, h1, h2⟩ := sr_lst r1
  obtain ⟨p', ys, rfl, h3, h4⟩ := sr_lst r2
  refine ⟨p, p', xs, ys, rfl, rfl, a.same _ _ h1, a.same _ _ h3, by rw [h2.length, h4.length]; exact hl, fun n hn => ?_⟩
  exact q _ _ _ _ _ (h n) (Same.refl F) (a.new (c := .lst ((ds ++ es).map .dat)) hn ⟨_, upd_same, dats_srs (h2.append h4)⟩) rfl
theorem dt_boolsL {F : Hp} : ∀ {xs : List V} {bs : List Bool}, DtAll K F xs (bs.map .bool) → xs = bs.map .bl
  | _, [], h => by cases h; rfl
  | _, b :: bs, h => by
    cases h with
    | cons h1 h2 =>
      cases h1
      rw [dt_boolsL h2]
      rfl
theorem flat_bools (bs : List Bool) : (bs.map V.bl).all flatV = true := List.all_eq_true.mpr fun z hz => by
  obtain ⟨b, _, rfl⟩ := List.mem_map.mp hz
  rfl
theorem wp_countB (h : Wp K A to S fun A1 s => ∃ (p : Addr) (bs : List Bool), s = .ptr p ∧ (p, .lst ((bs.map PyData.bool).map .dat)) ∈ A1.cells ∧ k A1 (.dat (.int (bs.count true : Nat)))) :
    Wp K A (tBM K "list" (rCntF K) to (tCons (tC (.bl true)) tNil)) S k := fun R F σ H Q a sd q =>
  h R F σ H _ a sd fun A1 s v F1 H1 ⟨p, bs, hs, hp, hk⟩ e1 a1 r1 => by
    subst hs
    obtain rfl : v = .ref p := r1
    obtain ⟨vs, h1, h2⟩ := a1.cellD hp
    have e := dt_boolsL h2
    subst e
    refine ⟨.inl ⟨rfl, _, .inl (.inl h1)⟩, p, bs.map V.bl, .bl true, rfl, rfl, .inl (.inl h1), rfl, flat_bools bs, ?_⟩
    have ec : (bs.map V.bl).countP (fun z => eqV z (.bl true)) = bs.count true := by
      rw [List.countP_map, List.count]
      congr 1
    rw [ec]
    exact q _ _ _ _ _ hk e1 a1 (.int _)
theorem wp_indexB {j : Nat} (h : Wp K A to S fun A1 s => ∃ (p : Addr) (bs : List Bool), s = .ptr p ∧ (p, .lst ((bs.map PyData.bool).map .dat)) ∈ A1.cells ∧ bs[j]? = some true ∧ (∀ m : Nat, m < j → bs[m]? = some false) ∧ k A1 (.dat (.int j))) :
    Wp K A (tBM K "list" (rIndex K) to (tCons (tC (.bl true)) tNil)) S k := fun R F σ H Q a sd q =>
  h R F σ H _ a sd fun A1 s v F1 H1 ⟨p, bs, hs, hp, hj, hno, hk⟩ e1 a1 r1 => by
    subst hs
    obtain rfl : v = .ref p := r1
    obtain ⟨vs, h1, h2⟩ := a1.cellD hp
    have e := dt_boolsL h2
    subst e
    refine ⟨.inl ⟨rfl, _, .inl (.inl h1)⟩, p, bs.map V.bl, .bl true, j, .bl true, rfl, rfl, .inl (.inl h1), rfl, flat_bools bs, by rw [List.getElem?_map, hj]; rfl, rfl, fun m z' hm hz => ?_, q _ _ _ _ _ hk e1 a1 (.int _)⟩
    rw [List.getElem?_map, hno m hm] at hz
    cases hz
    rfl
/-- a def that raises, called where what it raises goes to E -/
theorem wp_callX {W : List SV → (SV → Prop) → (Value → Prop) → Prop} {E : XK} (x : Value → Prop) (h : WpA K A ta S fun A1 ss => W ss (k A1) x ∧ ∀ cls, x cls → ∀ R F H, AtR K A1 R F H → E cls none H) : Wp K A (tCall (spP K W) [] E ta) S k := fun R F σ H Q a sd q =>
  h R F σ H _ a sd fun A1 ss vs F1 H1 ⟨h1, hx⟩ e1 a1 r1 => by
    show spP K W (vs ++ []) H1 Q E
    rw [List.append_nil]
    exact ⟨A1, R, F1, ss, k A1, x, a1, r1, h1, fun A2 s v F2 H2 hk e2 a2 r2 => by
      obtain ⟨rfl, hk⟩ := hk
      exact q A2 s v F2 H2 hk (e1.trans e2) a2 r2, fun cls F' H' hc e2 a2 => hx cls hc R F' H' a2⟩
end
/-! ### lambdas, what they raise and leave being one thing -/
def Hole1 (K : PySem.W.Frag) (A0 : Amb) (f : Addr) (hole : WX → TE) (X1 : Value → Prop) (k1 : SV → Prop) : Prop := ∀ (B : Amb) (W : WX) (SW : List SV), Holds K B A0 → SW[0]? = some (.ptr f) →
  (∀ cls, X1 cls → ∀ R F σ H, AtR K B R F H → SD K F σ SW → W cls none σ H) → Wp K B (hole W) SW fun A1 s => A1 = B ∧ k1 s
theorem wp_lamX {K : PySem.W.Frag} {A : Amb} {S : List SV} {k : KA} {P : Addr} {q : Str} {Ng : List Str} {Sc : (WX → TE) → TS → Prop} {t : XK → TE} (X1 : Value → Prop) (k1 : SV → Prop) (hP : (P, tabC q) ∈ A.cells) (hN : 0 < Ng.length)
    (hl : ∀ (B' : Amb) (E : XK), (∀ cls, X1 cls → ∀ R F H, AtR K B' R F H → E cls none H) → Wp K B' (t E) S fun A1 s => A1 = B' ∧ k1 s)
    (h : ∀ (I : Blk) (hole : WX → TE) (f : Addr) (tb : TS), Sc hole tb → Hole1 K ⟨I, A.cells⟩ f hole X1 k1 → Go K ⟨I, A.cells⟩ tb (.ptr f :: List.replicate (Ng.length - 1) .no) ⟨fun A1 _ => A1 = ⟨I, A.cells⟩ ∧ k A (.dat .none), fun _ _ => False, fun _ _ => False, fun A1 s => A1 = ⟨I, A.cells⟩ ∧ k A s⟩) :
    Wp K A (tLamW P q Ng Sc t) S k := wp_lamW hP hN fun I hole f tb hsc hh => h I hole f tb hsc fun B W SW hB hS hW => hh B W SW X1 k1 hB hS hl hW
theorem ps_tryZ {X : Cx} {x n : Str} {c : Value} {i : Nat} {body suite : List Stmt} {b₀ : Stmt} {np pos pos' : Pos} {tb : WX → TS} {ts : Addr → Value → TS} (hs : X.stack = X.env :: X.outer) (hf : X.env.frame = some X.env.locals) (hex : X.ex = []) (hN : X.N.Nodup) (hi : X.N[i]? = some n) (hln : X.env.kindOf n = some .local) (hc : Names X x c)
    (hb : ∀ (W : WX) (pn : List (Addr × Obj)) (xe : Value → Shared → Prop), Takes (X.tr pn xe) W → PassesOwn (model X.prog X.w) X.A X.env xe → PSs (X.tr pn xe) body (tb W))
    (hsu : ∀ (a : Addr) (oe : Obj) (cls : Value) (pn : List (Addr × Obj)), PSs (X.suite a ((a, oe) :: pn)) (b₀ :: suite) (ts a cls)) :
    PS X (.Try body [.ExceptHandler (some (.Name x np)) (some n) (b₀ :: suite) pos'] [] [] pos) (tTryZ X.K c i ts tb) := ps_try_asZ hs hf hex hN hi hln hc hb hsu
end DL

/-! A def that raises, called by names. -/
namespace DL
open PySem L2
section
variable {K : PySem.W.Frag} {A : Amb} {S : List SV} {k : KA} {n m : Nat} {W : List SV → (SV → Prop) → (Value → Prop) → Prop} {ta tk : TA} {perm : List (Sum Nat Nat)}
theorem wp_callPX {E : XK} (x : Value → Prop)
    (h : WpA K A ta S fun A1 ss => WpA K A1 tk S fun A2 ts => ss.length = n ∧ ts.length = m ∧ W (kperm (.dat .none) perm ss ts) (k A2) x ∧ ∀ cls, x cls → ∀ R F H, AtR K A2 R F H → E cls none H) : Wp K A (tCallP n m (spP K W) perm E ta tk) S k := fun R F σ H Q a sd q =>
  h R F σ H _ a sd fun A1 ss vs F1 H1 h1 e1 a1 r1 => h1 R F1 σ H1 _ a1 (sd.mono e1) fun A2 ts ws F2 H2 ⟨h2, h3, h4, hx⟩ e2 a2 r2 =>
    ⟨by rw [r1.length]; exact h2, by rw [r2.length]; exact h3, A2, R, F2, _, k A2, x, a2, srs_perm (SRs.mono e2 r1) r2 perm, h4, fun A3 s v F3 H3 hk e3 a3 r3 => by
      obtain ⟨rfl, hk⟩ := hk
      exact q A3 s v F3 H3 hk ((e1.trans e2).trans e3) a3 r3, fun cls F' H' hc e3 a3 => hx cls hc R F' H' a3⟩
theorem wp_callPE (h : WpA K A ta S fun A1 ss => WpA K A1 tk S fun A2 ts => ss.length = n ∧ ts.length = m ∧ W (kperm (.dat .none) perm ss ts) (k A2) (fun _ => False)) : Wp K A (tCallP n m (spP K W) perm E0 ta tk) S k :=
  wp_callPX (fun _ => False) (h.imp fun A1 ss h1 => h1.imp fun A2 ts ⟨h2, h3, h4⟩ => ⟨h2, h3, h4, fun cls hc => hc.elim⟩)
theorem rw_isP {a : Addr} (h : k A (.dat (.bool false))) : RW K rIsNo (.ptr a) (.dat .none) A k := fun R F H v w Q a r1 r2 q => by
  obtain rfl : v = .ref _ := r1
  have r2 : Dt K F w .none := r2
  cases r2
  exact ⟨rfl, q _ _ _ _ _ h (Same.refl F) a (.bl _)⟩
end
end DL

/-! d[x], x in d of a written dict; isinstance of a kept exception and a display of classes. -/
namespace DL
open PySem L2 PySem.Spec PyProof.Rows
def tKIx (K : PySem.W.Frag) (w : World) (td ty : TE) : TE := fun σ H Q => td σ H fun x H1 => ∃ (a : Addr) (L : List (Str × PyData)), x = .ref a ∧ KTab K w a L ∧ ty σ H1 fun y H2 => ∃ (k : Str) (d : PyData), y = .str k ∧ L.lookup k = some d ∧ ∀ v, Dt K (fun _ => none) v d → Q v H2
def tKIn (K : PySem.W.Frag) (w : World) (ty td : TE) : TE := fun σ H Q => ty σ H fun y H1 => td σ H1 fun x H2 => ∃ (a : Addr) (L : List (Str × PyData)) (k : Str), x = .ref a ∧ KTab K w a L ∧ y = .str k ∧ Q (.bl (L.lookup k).isSome) H2
theorem ents_at {K : PySem.W.Frag} {es : Array DictEntry} {L : List (Str × PyData)} {k : Str} (h : EntsOf K es.toList L) : (∀ d, L.lookup k = some d → ∃ v u, findBy Value.isStrOf es k = some u ∧ RelV v u ∧ Dt K (fun _ => none) v d) ∧ (L.lookup k = none → findBy Value.isStrOf es k = none) := by
  have ef : findBy Value.isStrOf es k = (es.toList.find? fun e => Value.isStrOf k e.key).map (·.val) := by
    unfold findBy
    rw [Array.find?_toList]
  rw [ef]
  exact ents_find h
section
variable {X : Cx} {o i : Expr} {pos : Pos} {td ty : TE}
theorem pe_kix (ho : PE X o td) (hi : PE X i ty) (hs : NoSl i) : PE X (.Subscript o i pos) (tKIx X.K X.w td ty) := by
  refine ⟨fun pins s σ H Q I h => ?_⟩
  refine subD_of PySem.F.slot_dict_getitem.lookup hs (thn (ho.run pins s σ H _ I h) fun u s1 ⟨x, H1, I1, rx, a, L, ex, ⟨es, n, hl, hk, low, ents⟩, q1⟩ => thn (hi.run pins s1 σ H1 _ I1 q1) fun iv s2 ⟨y, H2, I2, ry, k, d, ey, hd, q2⟩ => ?_)
  subst ex ey
  obtain rfl : u = Value.ref a := rx
  obtain ⟨t, rfl⟩ := (show ∃ t, iv = Value.str k t from ry)
  have hm := PySem.W.mapOf_K (prog := X.prog) (w := X.w) I2.kIn hl hk
  obtain ⟨v, u, e1, r, hv⟩ := (ents_at ents).1 d hd
  exact ⟨hm.typeIs, wpAny_getItem_of (strKind_is X.prog X.w k t) hm e1 ⟨v, H2, I2.tok _, r, q2 v hv⟩⟩
theorem pe_kixK (K : PySem.W.Frag) (w : World) (ho : PE X o td) (hi : PE X i ty) (hs : NoSl i) (hK : X.K = K := by rfl) (hw : X.w = w := by rfl) : PE X (.Subscript o i pos) (tKIx K w td ty) := by
  subst hK
  subst hw
  exact pe_kix ho hi hs
theorem pc_kin (hi : PE X i ty) (ho : PE X o td) : PC X .In i o (tKIn X.K X.w ty td) := by
  refine ⟨fun pins s σ H Q I h => ?_⟩
  refine thn (hi.run pins s σ H _ I h) fun iv s1 ⟨y, H1, I1, ry, q1⟩ => thn (ho.run pins s1 σ H1 _ I1 q1) fun u s2 ⟨x, H2, I2, rx, a, L, k, ex, ⟨es, n, hl, hk, low, ents⟩, ey, q2⟩ => ?_
  subst ex ey
  obtain rfl : u = Value.ref a := rx
  obtain ⟨t, rfl⟩ := (show ∃ t, iv = Value.str k t from ry)
  have hm := PySem.W.mapOf_K (prog := X.prog) (w := X.w) I2.kIn hl hk
  obtain ⟨i1, i2⟩ := ents_at (k := k) ents
  refine wpAny_in_of (strKind_is X.prog X.w k t) low hm ?_
  have e : (findBy Value.isStrOf es k).isSome = (L.lookup k).isSome := by
    cases hlk : L.lookup k with
    | none => rw [i2 hlk]; rfl
    | some d =>
      obtain ⟨v, u, e1, _⟩ := i1 d hlk
      rw [e1]; rfl
  rw [e]
  exact ⟨.bl (L.lookup k).isSome, H2, I2.tok _, rfl, q2⟩
theorem pc_kinK (K : PySem.W.Frag) (w : World) (hi : PE X i ty) (ho : PE X o td) (hK : X.K = K := by rfl) (hw : X.w = w := by rfl) : PC X .In i o (tKIn K w ty td) := by
  subst hK
  subst hw
  exact pc_kin hi ho
end
def rIsZT (K : PySem.W.Frag) : List V → Hp → VK → Prop := fun xs H Q => ∃ (a D b : Addr) (cs : List V) (cvs : List Value) (r : Bool), xs = [.ref a, .ref b] ∧ H a = some (ExZ (.ref D) a) ∧ ExcC K D ∧ SqT K H b cs ∧ (∀ us, Vals cs us → us = cvs) ∧ PySem.W.kitAny K (.ref D) cvs = some r ∧ Q (.bl r) H
theorem call_isZT {X : Cx} : CallR X (.builtin "isinstance") (rIsZT X.K) := by
  intro pins s σ H xs us Q I r h
  obtain ⟨a, D, b, cs, cvs, rb, rfl, ha, C, hb, hcv, e, q⟩ := h
  obtain ⟨u, w', rfl, rx, rt⟩ := vals2 r
  cases rx
  cases rt
  obtain ⟨its, rv, ⟨⟨cls, dd, data, sl⟩, ho, hc, n, hd⟩, _⟩ := I.tuple hb
  simp only at hc hd
  subst hc hd
  have ei := hcv _ rv
  obtain ⟨⟨oe, vs, hget, h1, h2, hv⟩, _, _⟩ := I.hok a _ ha
  have J : PySem.W.InstAt s.heap a oe D none := by
    obtain ⟨oc, od, oda, osl⟩ := oe
    dsimp only at h1 h2 hv
    subst h1 h2 hv
    exact ⟨hget, rfl, rfl, trivial⟩
  exact PySem.W.kia_tup (PySem.W.handS_kitx_exc C.hg C.hk C.hs C.hd C.ha C.hn C.ht C.hm) I.kIn J ho (by rw [ei]; exact e) (fun z => nomatch z) fun tk => ⟨.bl rb, H, I.kept (t' := tk) fun _ _ z => z, rfl, q⟩
theorem call_isZTK (K : PySem.W.Frag) {X : Cx} (h : X.K = K := by rfl) : CallR X (.builtin "isinstance") (rIsZT K) := h ▸ call_isZT
section
variable {K : PySem.W.Frag} {w : World} {A : Amb} {S : List SV} {k : KA} {te ty : TE} {a : Addr} {L : List (Str × PyData)}
theorem wp_kix (ht : KTab K w a L) (h : Wp K A ty S fun A1 s1 => ∃ (x : Str) (d : PyData), s1 = .dat (.str x) ∧ L.lookup x = some d ∧ k A1 (.dat d)) : Wp K A (tKIx K w (tC (.ref a)) ty) S k := fun R F σ H Q at' sd q =>
  ⟨a, L, rfl, ht, h R F σ H _ at' sd fun A1 s1 v F1 H1 ⟨x, d, hx, hd, hk⟩ e1 a1 r1 => by
    subst hx
    obtain rfl := sr_str r1
    exact ⟨x, d, rfl, hd, fun v hv => q _ _ _ _ _ hk e1 a1 (hv.mono fun _ _ z => by cases z)⟩⟩
theorem wp_kin (ht : KTab K w a L) (h : Wp K A ty S fun A1 s1 => ∃ x : Str, s1 = .dat (.str x) ∧ k A1 (.dat (.bool (L.lookup x).isSome))) : Wp K A (tKIn K w ty (tC (.ref a))) S k := fun R F σ H Q at' sd q =>
  h R F σ H _ at' sd fun A1 s1 v F1 H1 ⟨x, hx, hk⟩ e1 a1 r1 => by
    subst hx
    obtain rfl := sr_str r1
    exact ⟨a, L, x, rfl, ht, rfl, q _ _ _ _ _ hk e1 a1 (.bl _)⟩
def tCs : List V → TA
  | [] => tNil
  | c :: cs => tCons (tC c) (tCs cs)
theorem run_cs {σ : L2.St} {H : Hp} : ∀ {cs : List V} {Q : List V → Hp → Prop}, Q cs H → tCs cs σ H Q
  | [], _, h => h
  | c :: cs, _, h => run_cs (cs := cs) h
theorem wp_isZT {cs : List V} {cvs : List Value} (hcv : ∀ us, Vals cs us → us = cvs) (hl : cs.length ≤ sizeLine) (h : Wp K A te S fun A1 s => ∃ x D b, s = .ptr x ∧ (x, .exc (.ref D)) ∈ A1.cells ∧ ExcC K D ∧ PySem.W.kitAny K (.ref D) cvs = some b ∧ k A1 (.dat (.bool b))) : Wp K A (tCB (rIsZT K) (tCons te (tCons (tTup (tCs cs)) tNil))) S k := fun R F σ H Q at' sd q =>
  h R F σ H _ at' sd fun A1 s v F1 H1 ⟨x, D, b, hs, hx, C, hk, hq⟩ e1 a1 r1 => by
    subst hs
    obtain rfl : v = .ref x := r1
    refine run_cs (cs := cs) ⟨hl, fun p hp => ?_⟩
    obtain ⟨a2, e2⟩ := a1.alloc (o := .tup cs) hp
    exact ⟨x, D, p, cs, cvs, b, rfl, a2.cell hx, C, .inl (.inl upd_same), hcv, hk, q A1 _ _ _ _ hq (e1.trans e2) a2 (.bl _)⟩
end
/-! ### the law's own code object -/
theorem codeHd_by {K : PySem.W.Frag} {c T : Addr} {oc : Obj} (lc : K.lookup c = some oc) (h : PySem.W.codeHdIn [(c, oc)] c T = true) : PySem.W.codeHdIn K c T = true := by
  have e : PySem.W.codeHdIn K c T = PySem.W.codeHdIn [(c, oc)] c T := by
    unfold PySem.W.codeHdIn
    rw [lc, List.lookup_cons_self]
  rw [e]
  exact h
end DL

/-! x is not None of a tracked object; displays of classes. -/
namespace DL
open PySem L2
theorem rw_notP {K : PySem.W.Frag} {A : Amb} {k : KA} {a : Addr} (h : k A (.dat (.bool true))) : RW K rNotNo (.ptr a) (.dat .none) A k := fun R F H v w Q a r1 r2 q => by
  obtain rfl : v = .ref _ := r1
  have r2 : Dt K F w .none := r2
  cases r2
  exact ⟨rfl, q _ _ _ _ _ h (Same.refl F) a (.bl _)⟩
theorem vals_refs : ∀ {as : List Addr} {us : List Value}, Vals (as.map V.ref) us → us = as.map Value.ref
  | [], us, h => by cases h; rfl
  | a :: as, us, h => by
    cases h with
    | cons r t =>
      cases r
      rw [vals_refs t]
      rfl
end DL

/-! Dicts whose keys are tuples, nested: get, in, put, setdefault, display, dict(pairs), sorted. -/
namespace DL
open PySem L2

mutual
theorem nested_of {h : Heap} : ∀ (k : NestedKey) {v : Value} {as : List Addr}, Reads h v k.data as → NestedIs h k v
  | .none, _, _, r => by
    have r' : Reads h _ .none _ := r
    cases r'
    exact .none
  | .num i, _, _, r => by
    have r' : Reads h _ (.int i) _ := r
    cases r'
    exact .int _ _
  | .text x, _, _, r => by
    have r' : Reads h _ (.str x) _ := r
    cases r'
    exact .text _ _
  | .tup ks, _, _, r => by
    have r' : Reads h _ (.tuple (NestedKey.datas ks)) _ := r
    cases r' with
    | tuple ho hc hd hr => exact .tup ho hc hd (nestedAll_of ks hr)
theorem nestedAll_of {h : Heap} : ∀ (ks : List NestedKey) {vs : List Value} {as : List Addr}, ReadsAll h vs (NestedKey.datas ks) as → NestedAll h ks vs
  | [], _, _, r => by
    have r' : ReadsAll h _ [] _ := r
    cases r'
    exact .nil
  | k :: ks, _, _, r => by
    have r' : ReadsAll h _ (k.data :: NestedKey.datas ks) _ := r
    cases r' with
    | cons r1 r2 => exact .cons (nested_of k r1) (nestedAll_of ks r2)
end
mutual
theorem reads_nil {h : Heap} : ∀ (k : NestedKey) {v : Value} {as : List Addr}, Reads h v k.data as → as = []
  | .none, _, _, r => by
    have r' : Reads h _ .none _ := r
    cases r'
    rfl
  | .num i, _, _, r => by
    have r' : Reads h _ (.int i) _ := r
    cases r'
    rfl
  | .text x, _, _, r => by
    have r' : Reads h _ (.str x) _ := r
    cases r'
    rfl
  | .tup ks, _, _, r => by
    have r' : Reads h _ (.tuple (NestedKey.datas ks)) _ := r
    cases r' with
    | tuple ho hc hd hr => exact readsAll_nil ks hr
theorem readsAll_nil {h : Heap} : ∀ (ks : List NestedKey) {vs : List Value} {as : List Addr}, ReadsAll h vs (NestedKey.datas ks) as → as = []
  | [], _, _, r => by
    have r' : ReadsAll h _ [] _ := r
    cases r'
    rfl
  | k :: ks, _, _, r => by
    have r' : ReadsAll h _ (k.data :: NestedKey.datas ks) _ := r
    cases r' with
    | cons r1 r2 => rw [reads_nil k r1, readsAll_nil ks r2]; rfl
end
mutual
theorem key_depth : ∀ k : NestedKey, k.data.depth = k.depth
  | .none => rfl
  | .num i => rfl
  | .text x => rfl
  | .tup ks => by
    have e := keys_depth ks
    show PyData.depth (.tuple (NestedKey.datas ks)) = NestedKey.depth (.tup ks)
    simp only [PyData.depth, NestedKey.depth, e]
theorem keys_depth : ∀ ks : List NestedKey, PyData.depthAll (NestedKey.datas ks) = NestedKey.depthAll ks
  | [] => rfl
  | k :: ks => by
    have e1 := key_depth k
    have e2 := keys_depth ks
    show PyData.depthAll (k.data :: NestedKey.datas ks) = NestedKey.depthAll (k :: ks)
    simp only [PyData.depthAll, NestedKey.depthAll, e1, e2]
end
section
variable {κ : Type} [DecidableEq κ]
def atX (xs : List (κ × Addr × V)) (k : κ) : Option V := (xs.find? fun x => decide (x.1 = k)).map (·.2.2)
def putX (xs : List (κ × Addr × V)) (k : κ) (b : Addr) (v : V) : List (κ × Addr × V) := if (xs.any fun x => decide (x.1 = k)) = true then xs.map (fun x => if x.1 = k then (x.1, x.2.1, v) else x) else xs ++ [(k, b, v)]
end
theorem rel_find {k : NestedKey} : ∀ {xs : KX} {ys : List (NestedKey × Addr × Value)}, Paired KRel xs ys → RelO (atX xs k) ((atKey ys k).map (·.2))
  | _, _, .nil => trivial
  | _, _, .cons (a := x) (b := y) r t => by
    have ih := rel_find (k := k) t
    unfold atX atKey at ih ⊢
    by_cases e : x.1 = k
    · rw [List.find?_cons_of_pos (by simpa using e), List.find?_cons_of_pos (by rw [← r.1]; simpa using e)]
      exact r.2.2
    · rw [List.find?_cons_of_neg (by simpa using e), List.find?_cons_of_neg (by rw [← r.1]; simpa using e)]
      exact ih
theorem rel_any {k : NestedKey} : ∀ {xs : KX} {ys : List (NestedKey × Addr × Value)}, Paired KRel xs ys → (xs.any fun x => decide (x.1 = k)) = (atKey ys k).isSome
  | _, _, .nil => rfl
  | _, _, .cons (a := x) (b := y) r t => by
    have ih := rel_any (k := k) t
    unfold atKey at ih ⊢
    by_cases e : x.1 = k
    · rw [List.find?_cons_of_pos (by rw [← r.1]; simpa using e)]
      simp [e]
    · rw [List.find?_cons_of_neg (by rw [← r.1]; simpa using e), List.any_cons, ih]
      simp [e]
theorem rel_map {k : NestedKey} {v : V} {u : Value} (rv : RelV v u) : ∀ {xs : KX} {ys : List (NestedKey × Addr × Value)}, Paired KRel xs ys → Paired KRel (xs.map fun x => if x.1 = k then (x.1, x.2.1, v) else x) (ys.map (putAt k u))
  | _, _, .nil => .nil
  | _, _, .cons (a := x) (b := y) r t => by
    refine .cons ?_ (rel_map rv t)
    show KRel (if x.1 = k then (x.1, x.2.1, v) else x) (putAt k u y)
    unfold putAt
    rw [← r.1]
    split
    · exact ⟨rfl, r.2.1, rv⟩
    · exact r
theorem rel_put {k : NestedKey} {b : Addr} {v : V} {u : Value} (rv : RelV v u) {xs : KX} {ys : List (NestedKey × Addr × Value)} (h : Paired KRel xs ys) : Paired KRel (putX xs k b v) (storedH ys k b u) := by
  unfold putX storedH
  rw [rel_any h]
  split
  · exact rel_map rv h
  · exact papp h (.cons ⟨rfl, rfl, rv⟩ .nil)
theorem putX_len (xs : KX) (k : NestedKey) (b : Addr) (v : V) : (putX xs k b v).length ≤ xs.length + 1 := by
  unfold putX
  split
  · rw [List.length_map]; omega
  · rw [List.length_append]; exact Nat.le_refl _
theorem kdO_ok {P : Program} {w w' : World} {H : Hp} {h : Heap} {a : Addr} {xs : KX} (p : KdP w a xs h) : ObjOk P w' H h a (KdO w a xs) := by
  have ⟨_, _, ys, _, o, es, ep, ho, _⟩ := p
  refine ⟨p, ⟨o, ho⟩, fun h1 h2 q k => ?_⟩
  obtain ⟨z, hd, ys, rel, o, es, ep, ho, r⟩ := q
  exact ⟨z, hd, ys, rel, o, es, ep, k o ho, r⟩
section
variable {X : Cx} {pins : List (Addr × Obj)} {σ : St} {H : Hp} {s : Shared} {a b : Addr} {xs : KX} {k : NestedKey}
theorem key_is (I : Inv X pins σ H s) (hd : Dt X.K H (.ref b) k.data) (hk : k.depth ≤ 8) : (nestedKind X.prog X.w).is s.heap k b := by
  obtain ⟨as, r, _⟩ := Dt.reads I hd (u := .ref b) rfl
  exact ⟨nested_of k r, hk⟩
theorem kd_at (I : Inv X pins σ H s) (e : H a = some (KdO X.w a xs)) (ka : KeysAt X.K H xs) : xs.length ≤ sizeLine ∧ (a == sysModules) = false ∧ ∃ ys, Paired KRel xs ys ∧ s.heap.DictOfH (nestedKind X.prog X.w) a ys := by
  obtain ⟨z, hd, ys, rel, o, es, ep, ho, hc, hdat, he, hn⟩ := (I.hok a _ e).1
  refine ⟨z, hd, ys, rel, o, es, ep, ho, hc, hdat, he, fun y hy => ?_, hn⟩
  obtain ⟨x, hx, r⟩ : ∃ x ∈ xs, KRel x y := by
    clear he hn ka z e
    induction rel with
    | nil => cases hy
    | cons r t ih =>
      rcases List.mem_cons.mp hy with rfl | hy
      · exact ⟨_, List.mem_cons_self, r⟩
      · obtain ⟨x, hx, r⟩ := ih hy
        exact ⟨x, List.mem_cons_of_mem _ hx, r⟩
  obtain ⟨h1, h2⟩ := ka x hx
  have := key_is I h1 h2
  rw [r.1, r.2.1] at this
  exact this
theorem dt_ref {K : PySem.W.Frag} {H : Hp} {y : V} {ks : List NestedKey} (h : Dt K H y (NestedKey.tup ks).data) : ∃ b, y = .ref b := by
  have h' : Dt K H y (.tuple (NestedKey.datas ks)) := h
  cases h'
  exact ⟨_, rfl⟩
/-- the key k at y -/
def KyAt (K : PySem.W.Frag) (H : Hp) (y : V) (k : NestedKey) : Prop := ∃ ks, k = .tup ks ∧ k.depth ≤ 8 ∧ Dt K H y k.data
theorem KyAt.ref {K : PySem.W.Frag} {H : Hp} {y : V} (h : KyAt K H y k) : ∃ b, y = .ref b ∧ k.depth ≤ 8 ∧ Dt K H (.ref b) k.data := by
  obtain ⟨ks, rfl, hk, hd⟩ := h
  obtain ⟨b, rfl⟩ := dt_ref hd
  exact ⟨b, rfl, hk, hd⟩
/-- d[y] -/
def tKdGet (K : PySem.W.Frag) (w : World) (td ty : TE) : TE := fun σ H Q => td σ H fun x H1 => ty σ H1 fun y H2 => ∃ (a : Addr) (xs : KX) (k : NestedKey) (v : V), x = .ref a ∧ H2 a = some (KdO w a xs) ∧ KeysAt K H2 xs ∧ KyAt K H2 y k ∧ atX xs k = some v ∧ Q v H2
/-- y in d -/
def tKdIn (K : PySem.W.Frag) (w : World) (ty td : TE) : TE := fun σ H Q => ty σ H fun y H1 => td σ H1 fun x H2 => ∃ (a : Addr) (xs : KX) (k : NestedKey), x = .ref a ∧ H2 a = some (KdO w a xs) ∧ KeysAt K H2 xs ∧ KyAt K H2 y k ∧ Q (.bl (atX xs k).isSome) H2
def tKdNi (K : PySem.W.Frag) (w : World) (ty td : TE) : TE := fun σ H Q => ty σ H fun y H1 => td σ H1 fun x H2 => ∃ (a : Addr) (xs : KX) (k : NestedKey), x = .ref a ∧ H2 a = some (KdO w a xs) ∧ KeysAt K H2 xs ∧ KyAt K H2 y k ∧ Q (.bl (!(atX xs k).isSome)) H2
def rKdPut (K : PySem.W.Frag) (w : World) : TSet := fun o i v H Q => ∃ (a b : Addr) (xs : KX) (k : NestedKey), o = .ref a ∧ i = .ref b ∧ H a = some (KdO w a xs) ∧ KeysAt K H xs ∧ KyAt K H (.ref b) k ∧ xs.length < sizeLine ∧ Q (upd H a (KdO w a (putX xs k b v)))
/-- d[y] = v -/
def sKdPut (K : PySem.W.Frag) (w : World) (td ty tv : TE) : TS := fun D σ H => tv σ H fun v H1 => td σ H1 fun x H2 => ty σ H2 fun y H3 => rKdPut K w x y v H3 fun H4 => D.nx σ H4
variable {o i e f value : Expr} {pos pos' apos cpos : Pos} {td ty tv tx : TE}
theorem room8 (hu : X.A.units + 65 < cLine) : (nestedKind X.prog X.w).room X.A.in1 := by show X.A.units + 1 + 8 < cLine; omega
theorem pe_kdget (hu : X.A.units + 65 < cLine) (ho : PE X o td) (hi : PE X i ty) (hs : NoSl i) : PE X (.Subscript o i pos) (tKdGet X.K X.w td ty) := by
  refine ⟨fun pins s σ H Q I h => ?_⟩
  refine subD_of PySem.F.slot_dict_getitem.lookup hs (thn (ho.run pins s σ H _ I h) fun u s1 ⟨x, H1, I1, rx, q1⟩ => thn (hi.run pins s1 σ H1 _ I1 q1) fun iv s2 ⟨y, H2, I2, ry, a, xs, k, v, ex, e, ka, ky, l, q2⟩ => ?_)
  subst ex
  obtain rfl : u = Value.ref a := rx
  obtain ⟨z, hd, ys, rel, dd⟩ := kd_at I2 e ka
  obtain ⟨b, rfl, hk, hb⟩ := ky.ref
  obtain rfl : iv = Value.ref b := ry
  obtain ⟨w', hw, rw'⟩ := RelO.some_of (v := v) (o := (atKey ys k).map (·.2)) (by rw [← l]; exact rel_find rel)
  obtain ⟨p, hp, hp2⟩ := Option.map_eq_some_iff.mp hw
  refine ⟨dd.typeIs, wpAny_getItem_heap (room8 hu) (key_is I2 hb hk) dd hp ?_⟩
  rw [hp2]
  exact ⟨v, H2, I2.tok _, rw', q2⟩
theorem pc_kdin (hu : X.A.units + 65 < cLine) (hi : PE X i ty) (ho : PE X o td) : PC X .In i o (tKdIn X.K X.w ty td) := by
  refine ⟨fun pins s σ H Q I h => ?_⟩
  refine thn (hi.run pins s σ H _ I h) fun iv s1 ⟨y, H1, I1, ry, q1⟩ => thn (ho.run pins s1 σ H1 _ I1 q1) fun u s2 ⟨x, H2, I2, rx, a, xs, k, ex, e, ka, ky, q2⟩ => ?_
  subst ex
  obtain rfl : u = Value.ref a := rx
  obtain ⟨z, hd, ys, rel, dd⟩ := kd_at I2 e ka
  obtain ⟨b, rfl, hk, hb⟩ := ky.ref
  obtain rfl : iv = Value.ref b := ry
  refine wpAny_in_heap (room8 hu) (key_is I2 hb hk) hd dd ?_
  have q := (rel_find (k := k) rel).isSome_eq
  rw [Option.isSome_map] at q
  rw [← q]
  exact ⟨.bl _, H2, I2.tok _, rfl, q2⟩
theorem pc_kdni (hu : X.A.units + 65 < cLine) (hi : PE X i ty) (ho : PE X o td) : PC X .NotIn i o (tKdNi X.K X.w ty td) := by
  refine ⟨fun pins s σ H Q I h => ?_⟩
  refine thn (hi.run pins s σ H _ I h) fun iv s1 ⟨y, H1, I1, ry, q1⟩ => thn (ho.run pins s1 σ H1 _ I1 q1) fun u s2 ⟨x, H2, I2, rx, a, xs, k, ex, e, ka, ky, q2⟩ => ?_
  subst ex
  obtain rfl : u = Value.ref a := rx
  obtain ⟨z, hd, ys, rel, dd⟩ := kd_at I2 e ka
  obtain ⟨b, rfl, hk, hb⟩ := ky.ref
  obtain rfl : iv = Value.ref b := ry
  refine PyProof.Rows.wpAny_notIn_heap (room8 hu) (key_is I2 hb hk) hd dd ?_
  have q := (rel_find (k := k) rel).isSome_eq
  rw [Option.isSome_map] at q
  rw [← q]
  exact ⟨.bl _, H2, I2.tok _, rfl, q2⟩
theorem kd_new {P : Program} {w : World} {h' : Heap} {ys : List (NestedKey × Addr × Value)} (z : xs.length ≤ sizeLine) (hd : (a == sysModules) = false) (rel : Paired KRel xs ys) (dd : h'.DictOfH (nestedKind P w) a ys) : KdP w a xs h' := by
  obtain ⟨o, es, ep, h1, h2, h3, h4, _, h5⟩ := dd
  exact ⟨z, hd, ys, rel, o, es, ep, h1, h2, h3, h4, h5⟩
theorem set_kd (hu : X.A.units + 65 < cLine) : PSet X (rKdPut X.K X.w) := by
  intro pins s σ H o i v ov iv u Q I ro ri rv h
  obtain ⟨a, b, xs, k, rfl, rfl, e, ka, ky, hl, q⟩ := h
  cases (show ov = Value.ref a from ro)
  obtain rfl : iv = Value.ref b := ri
  obtain ⟨z, hd, ys, rel, dd⟩ := kd_at I e ka
  obtain ⟨b', eb, hk, hb⟩ := ky.ref
  cases eb
  have hz : ys.length ≤ sizeLine := by rw [← Paired.length rel]; exact z
  refine wpAny_setItem_heap (hsz := hz) (room8 hu) (key_is I hb hk) dd fun h' dd' hs => ⟨_, ?_, q⟩
  have he : ∃ q, h'.get? a = some q := let ⟨q, _, _, hq, _⟩ := dd'; ⟨q, hq⟩
  exact d_write I (by rw [e]; exact True.intro) hs he (kdO_ok (kd_new (by have := putX_len xs k b v; omega) hd (rel_put rv rel) dd'))
theorem ps_kdput (hu : X.A.units + 65 < cLine) (ho : PE X o td) (hi : PE X i ty) (hv : PE X value tv) (hs : swapsWith value (some (.Subscript o i pos')) pos.line X.env = pure false) :
    PS X (.Assign [.Subscript o i pos'] value pos) (sKdPut X.K X.w td ty tv) := by
  refine ⟨fun pins s σ H D I h => ?_⟩
  refine wpAny_Assign_Subscript (thn (hv.run pins s σ H _ I h) fun r s1 ⟨v, H1, I1, rv, q1⟩ => thn (ho.run pins s1 σ H1 _ I1 q1) fun u s2 ⟨x, H2, I2, rx, q2⟩ => thn (hi.run pins s2 σ H2 _ I2 q2) fun iv s3 ⟨y, H3, I3, ry, q3⟩ => ?_) hs
  refine thn (set_kd hu pins s3 σ H3 x y v u iv r _ I3 rx ry rv q3) fun _ s4 ⟨H4, I4, q4⟩ => ⟨σ, H4, I4, q4⟩

/-- d.setdefault(y, z) -/
def tKdSetd (K : PySem.W.Frag) (w : World) (td ty tx : TE) : TE := fun σ H Q => td σ H fun x H1 => ∃ (a : Addr), x = .ref a ∧ (∃ xs0, H1 a = some (KdO w a xs0)) ∧ ty σ H1 fun y H2 => tx σ H2 fun z H3 => ∃ (xs : KX) (k : NestedKey) (b : Addr), y = .ref b ∧ H3 a = some (KdO w a xs) ∧ KeysAt K H3 xs ∧ KyAt K H3 (.ref b) k ∧ xs.length < sizeLine ∧
  (∀ v, atX xs k = some v → Q v H3) ∧ (atX xs k = none → Q z (upd H3 a (KdO w a (putX xs k b z))))
theorem kd_type (I : Inv X pins σ H s) (e : H a = some (KdO X.w a xs)) : s.TypeIs (.ref a) "dict" ∧ ∀ b, Value.ref a = .ref b → ∃ ob, s.heap.get? b = some ob ∧ ob.dict = none := by
  obtain ⟨_, _, ys, _, o, es, ep, ho, hc, _⟩ := (I.hok a _ e).1
  exact ⟨⟨o, ho, hc.1⟩, fun b q => by cases q; exact ⟨o, ho, hc.2.1⟩⟩
theorem pe_kdsetd (hu : X.A.units + 65 < cLine) (ho : PE X o td) (he : PE X e ty) (hf : PE X f tx) (m : M2 X o "setdefault" apos e f cpos) : PE X (.Call (.Attribute o "setdefault" apos) [e, f] [] cpos) (tKdSetd X.K X.w td ty tx) := by
  refine ⟨fun pins s σ H Q I h => ?_⟩
  refine wpAny_Call_method m.base m.few m.line PySem.F.plainAttrs_dict PySem.F.slot_dict_setdefault PySem.F.type_dict_setdefault (thn (ho.run pins s σ H _ I h) fun u s1 ⟨x, H1, I1, rx, a, ex, ⟨xs0, hd0⟩, q1⟩ => ?_)
  subst ex
  obtain rfl : u = Value.ref a := rx
  obtain ⟨t1, t2⟩ := kd_type I1 hd0
  refine ⟨t1, t2, ?_⟩
  rw [m.trees]
  refine PySem.Calls.callWith_builtin rfl (PySem.Calls.evalArgs_plain (PySem.Calls.spliced_cons (thn (he.run pins s1 σ H1 _ I1 q1) fun iv s2 ⟨y, H2, I2, ry, q2⟩ =>
    PySem.Calls.spliced_cons (thn (hf.run pins s2 σ H2 _ I2 q2) fun fv s3 ⟨z, H3, I3, rz, xs, k, b, ey, e3, ka, ky, hl, q3, q4⟩ => PySem.Calls.spliced_nil ?_))))
  subst ey
  obtain rfl : iv = Value.ref b := ry
  obtain ⟨zl, hd, ys, rel, dd⟩ := kd_at I3 e3 ka
  obtain ⟨b', eb, hk, hb⟩ := ky.ref
  cases eb
  have hz : ys.length ≤ sizeLine := by rw [← Paired.length rel]; exact zl
  have rf := rel_find (k := k) rel
  refine call_setdefault_heap (hsz := hz) (room8 hu) (key_is I3 hb hk) hd dd (fun p hp => ?_) fun hn h' dd' hs => ?_
  · rw [hp] at rf
    cases q0 : atX xs k with
    | none => rw [q0] at rf; exact (show False from rf).elim
    | some v0 => rw [q0] at rf; exact ⟨v0, H3, I3.tok _, rf, q3 v0 q0⟩
  · rw [hn] at rf
    cases q0 : atX xs k with
    | some v0 => rw [q0] at rf; exact (show False from rf).elim
    | none =>
      have he : ∃ q, h'.get? a = some q := let ⟨q, _, _, hq, _⟩ := dd'; ⟨q, hq⟩
      exact ⟨z, _, d_write I3 (by rw [e3]; exact True.intro) hs he (kdO_ok (kd_new (by have := putX_len xs k b z; omega) hd (rel_put rz rel) dd')), rz, q4 q0⟩
/-! ### made anew -/
def mergeX (kvs more : KX) : KX := more.foldl (fun acc x => putX acc x.1 x.2.1 x.2.2) kvs
theorem mergeX_len : ∀ (more kvs : KX), (mergeX kvs more).length ≤ kvs.length + more.length
  | [], kvs => by show kvs.length ≤ kvs.length + 0; omega
  | p :: r, kvs => by
    have h1 := mergeX_len r (putX kvs p.1 p.2.1 p.2.2)
    have h2 := putX_len kvs p.1 p.2.1 p.2.2
    show (mergeX (putX kvs p.1 p.2.1 p.2.2) r).length ≤ _
    rw [List.length_cons]; omega
theorem rel_merge : ∀ {more : KX} {ms : List (NestedKey × Addr × Value)} {kvs : KX} {ys : List (NestedKey × Addr × Value)}, Paired KRel more ms → Paired KRel kvs ys → Paired KRel (mergeX kvs more) (storedAllH ys ms)
  | _, _, _, _, .nil, h => h
  | _, _, kvs, ys, .cons (a := (k, b, v)) (b := (k', b', u)) (l₁ := l₁) (l₂ := l₂) r t, h => by
    obtain ⟨r1, r2, r3⟩ := r
    have r1 : k = k' := r1
    have r2 : b = b' := r2
    subst r1 r2
    show Paired KRel (mergeX (putX kvs k b v) l₁) (storedAllH (storedH ys k b u) l₂)
    exact rel_merge t (rel_put r3 h)
theorem kd_empty {P : Program} {w : World} {H : Hp} (h : Heap) (hb : sysModules < h.objs.size) : ObjOk P w H (h.push { cls := .type "dict", data := .dict #[] }) h.objs.size (KdO w h.objs.size []) :=
  kdO_ok ⟨Nat.zero_le _, beq_eq_false_iff_ne.mpr (Ne.symm (Nat.ne_of_lt hb)), [], .nil, _, #[], 0, Heap.get?_push_size _ rfl, ⟨rfl, rfl, rfl⟩, rfl, rfl, List.nodup_nil⟩
/-- {} -/
def tKdNew (w : World) : TE := fun _ H Q => ∀ p, H p = none → Q (.ref p) (upd H p (KdO w p []))
theorem pe_kdnew : PE X (.Dict [] [] pos) (tKdNew X.w) := ⟨fun pins s σ H Q I h =>
  wpAny_Dict_empty ⟨.ref s.heap.objs.size, _, I.laid (a := s.heap.objs.size) (o := KdO X.w s.heap.objs.size []) (t' := s.toks) (fun _ _ q => Heap.get?_push_of_some _ q) (Nat.le_refl _) (kd_empty s.heap I.big), rfl, h _ (I.hok.fresh (Nat.le_refl _))⟩⟩
theorem dict_pairsH2 {prog : Program} {w : World} {A : Around} {E : Value → Shared → Prop} {s : Shared} {env : Env} {keys : List (Option Expr)} {values : List Expr} {pos : Pos} {pairs : List (Sem Value × Sem Value)} {Q : Value → Shared → Prop} (hu : (nestedKind prog w).room A)
    (hshape : (evalEachOpt keys env).zip ((evalEach values env).map fun v => do let x ← v; standAt pos; pure x) = pairs.map fun p => (some p.1, p.2)) (h0 : pairs ≠ []) (hlen : pairs.length ≤ 15)
    (h : wpAny (model prog w) A (evalPairs pairs) (fun vs s₁ => ∃ ps, CarriesH (nestedKind prog w) s₁.heap vs ps ∧ s₁.heap.DictOfH (nestedKind prog w) s.heap.objs.size [] ∧
      ∀ h' tk, h'.DictOfH (nestedKind prog w) s.heap.objs.size (storedAllH [] ps) → Heap.SameBut s.heap.objs.size s₁.heap h' → Q (.ref s.heap.objs.size) { s₁ with heap := h', toks := tk }) E
      { s with heap := s.heap.push { cls := .type "dict", data := .dict #[] } }) :
    wpAny (model prog w) A (eval (.Dict keys values pos) env) Q E s := by
  rw [arm_eval_Dict, hshape, dictDisplay_pairs pairs h0 (by omega)]
  exact wpAny_bind (wpAny_standAt (wpAny_bind (wpAny_subDictH (knd := nestedKind prog w) (Q := fun d s' => wpAny (model prog w) A (pure (Value.ref d)) Q E s') hu hlen
    (wpAny_mono h (fun vs s₁ h₁ => by obtain ⟨ps, hc, hm, hq⟩ := h₁; exact ⟨ps, hc, hm, fun h' tk a b => wpAny_pure (hq h' tk a b)⟩) fun _ _ e => e))))
/-- {k: v, ..} -/
def tKdDisp (K : PySem.W.Frag) (w : World) (trs : List (TE × TE)) : TE := fun σ H Q => ∀ p, H p = none → tPairs trs σ (upd H p (KdO w p [])) fun ps H2 => H2 p = some (KdO w p []) ∧ ∃ kvs : KX, ps = kvs.map (fun x => (V.ref x.2.1, x.2.2)) ∧ (∀ x ∈ kvs, KyAt K H2 (.ref x.2.1) x.1) ∧ kvs.length ≤ 15 ∧ Q (.ref p) (upd H2 p (KdO w p (mergeX [] kvs)))
theorem carriesH_of (I : Inv X pins σ H s) : ∀ {kvs : KX} {ws : List (Value × Value)}, (∀ x ∈ kvs, KyAt X.K H (.ref x.2.1) x.1) → VV (kvs.map fun x => (V.ref x.2.1, x.2.2)) ws → ∃ rs, CarriesH (nestedKind X.prog X.w) s.heap ws rs ∧ Paired KRel kvs rs
  | [], _, _, r => by rw [List.map_nil] at r; cases r; exact ⟨[], True.intro, .nil⟩
  | p :: kvs, _, hk, r => by
    rw [List.map_cons] at r
    cases r with
    | @cons a b as bs h t =>
      obtain ⟨rs, c, q⟩ := carriesH_of I (fun x hx => hk x (List.mem_cons_of_mem _ hx)) t
      obtain ⟨b1, b2⟩ := b
      obtain ⟨b', eb, h8, hb⟩ := (hk p List.mem_cons_self).ref
      cases eb
      have h1 : b1 = Value.ref p.2.1 := h.1
      exact ⟨(p.1, p.2.1, b2) :: rs, ⟨h1, rfl, key_is I hb h8, c⟩, .cons ⟨rfl, rfl, h.2⟩ q⟩
theorem pe_kddisp (hu : X.A.units + 65 < cLine) {keys : List (Option Expr)} {values : List Expr} {trs : List (TE × TE)} (h : PPs X pos keys values trs) (hall : keys.all (·.isSome) = true) (hl : keys.length = values.length) (h0 : keys ≠ [])
    (h15 : keys.length ≤ 15) : PE X (.Dict keys values pos) (tKdDisp X.K X.w trs) := by
  refine ⟨fun pins s σ H Q I q => ?_⟩
  have hn := I.hok.fresh (Nat.le_refl s.heap.objs.size)
  have I1 := I.laid (a := s.heap.objs.size) (o := KdO X.w s.heap.objs.size []) (h' := s.heap.push { cls := .type "dict", data := .dict #[] }) (t' := s.toks) (fun _ _ q => Heap.get?_push_of_some _ q) (Nat.le_refl _) (kd_empty s.heap I.big)
  have hnl := PySem.pairTrees_length keys values X.env pos hall hl
  refine dict_pairsH2 (pairs := PySem.pairTrees keys values X.env pos) (by show X.A.units + 8 < cLine; omega) (PySem.zip_pairTrees keys values X.env pos hall hl) ?_ (by rw [hnl]; exact h15) (thn (h.run pins _ σ _ _ I1 (q _ hn)) fun ws s2 ⟨ps, H2, I2, rel, e, kvs, ep, hky, lk, q2⟩ => ?_)
  · intro he
    rw [he] at hnl
    exact h0 (List.length_eq_zero_iff.mp hnl.symm)
  subst ep
  obtain ⟨rs, c, rk⟩ := carriesH_of I2 hky rel
  obtain ⟨z, hd, ys, r0, dd⟩ := kd_at I2 e (fun x hx => by cases hx)
  cases r0
  refine ⟨rs, c, dd, fun h' tk dd' hs => ⟨.ref s.heap.objs.size, _, ?_, rfl, q2⟩⟩
  have he : ∃ q, h'.get? s.heap.objs.size = some q := let ⟨q, _, _, hq, _⟩ := dd'; ⟨q, hq⟩
  have hz : (mergeX [] kvs).length ≤ sizeLine := by
    have h1 := mergeX_len kvs []
    rw [List.length_nil] at h1
    rw [sizeLine_eq]; omega
  exact d_write I2 (by rw [e]; exact True.intro) hs he (kdO_ok (kd_new hz hd (rel_merge rk .nil) dd'))
/-- dict(pairs) -/
def rDictKd (K : PySem.W.Frag) (w : World) : List V → Hp → VK → Prop := fun xs H Q => ∃ (a : Addr) (ps : List Addr) (kvs : KX), xs = [.ref a] ∧ SqL K H a (ps.map V.ref) ∧ Paired (fun p x => SqT K H p [V.ref x.2.1, x.2.2]) ps kvs ∧ (∀ x ∈ kvs, KyAt K H (.ref x.2.1) x.1) ∧
  ∀ p, H p = none → Q (.ref p) (upd H p (KdO w p (mergeX [] kvs)))
theorem pairsH_of (I : Inv X pins σ H s) : ∀ {ps : List Addr} {kvs : KX}, Paired (fun p x => SqT X.K H p [V.ref x.2.1, x.2.2]) ps kvs → (∀ x ∈ kvs, KyAt X.K H (.ref x.2.1) x.1) →
    ∃ rs : List (NestedKey × Addr × Value), Paired KRel kvs rs ∧ rs.length = ps.length ∧ (∀ (j : Nat) (q : NestedKey × Addr × Value), rs[j]? = some q → ∃ p, ps[j]? = some p ∧ PyProof.Rows.IsTup s.heap p #[.ref q.2.1, q.2.2]) ∧ ∀ q ∈ rs, (nestedKind X.prog X.w).is s.heap q.1 q.2.1
  | _, _, .nil, _ => ⟨[], .nil, rfl, fun j q e => by simp at e, fun q hq => by cases hq⟩
  | _, _, .cons (a := p) (b := x) h t, hk => by
    obtain ⟨rs, r, hl, hp, hq⟩ := pairsH_of I t fun y hy => hk y (List.mem_cons_of_mem _ hy)
    obtain ⟨its, rv, ht, _⟩ := I.tuple h
    obtain ⟨u, y, ei, ru, ry⟩ := vals2 rv
    subst ei
    have hu : u = Value.ref x.2.1 := ru
    subst hu
    obtain ⟨b', eb, h8, hb⟩ := (hk x List.mem_cons_self).ref
    cases eb
    refine ⟨(x.1, x.2.1, y) :: rs, .cons ⟨rfl, rfl, ry⟩ r, by rw [List.length_cons, List.length_cons, hl], fun j q e => ?_, fun q hq' => ?_⟩
    · cases j with
      | zero =>
        have e' : (x.1, x.2.1, y) = q := Option.some.inj e
        subst e'
        exact ⟨p, rfl, ht⟩
      | succ j =>
        obtain ⟨b, e1, e2⟩ := hp j q (by simpa using e)
        exact ⟨b, by simpa using e1, e2⟩
    · rcases List.mem_cons.mp hq' with rfl | hq'
      · exact key_is I hb h8
      · exact hq q hq'
theorem call_dictKd (hcalm : X.calm = true) (hu : X.A.units + 65 < cLine) : CallR X (.type "dict") (rDictKd X.K X.w) := by
  intro pins s σ H xs us Q I r q
  obtain ⟨a, ps, kvs, rfl, hq, hp, hk, q⟩ := q
  obtain ⟨u, rfl, rx⟩ := vals1 r
  cases rx
  obtain ⟨its, rv, pl, hz⟩ := I.list hq
  have ei := refs_at rv
  subst ei
  rw [List.length_map] at hz
  obtain ⟨rs, rel, hl, hpr, his⟩ := pairsH_of I hp hk
  obtain ⟨o, n, ho, hc, hd, hdat⟩ := pl
  have hm : (s.heap.objs.size == sysModules) = false := beq_eq_false_iff_ne.mpr (Nat.ne_of_gt I.big)
  refine call_dict_pairsH (knd := nestedKind X.prog X.w) (ps := rs) (PairArg.list a (ps.map Value.ref).toArray (fun j => ps.getD j 0) (rs.map fun q => (Value.ref q.2.1, q.2.2))) (I.ok.hd hcalm) (by show X.A.units + 1 + 1 + 8 < cLine; omega)
    ⟨⟨o, n, ho, hc, hd, hdat⟩, by simp [hl], fun j k v e => ?_⟩ ⟨by simp, fun i key v e => ?_⟩ (fun h' hk' x hx => nestedKind_stays.stays (fun b o' vs n' e _ => hk' b o' (Nat.ne_of_lt (Heap.lt_size e)) (fun z => nomatch z) e) (his x hx)) (by rw [List.length_map, hl]; exact hz) fun h' tk hd' hk' => ?_
  · rw [List.getElem?_map] at e
    obtain ⟨q', e1, e2⟩ := Option.map_eq_some_iff.mp e
    cases e2
    obtain ⟨p, e3, e4⟩ := hpr j q' e1
    refine ⟨by simp [List.getD, e3], .inl ?_⟩
    have e5 : ps.getD j 0 = p := by simp [List.getD, e3]
    show s.heap.IsTuple (ps.getD j 0) _
    rw [e5]
    exact e4
  · have e : (rs.map fun q => (Value.ref q.2.1, q.2.2))[i]? = some (key, v) := e
    rw [List.getElem?_map] at e
    obtain ⟨q', e1, e2⟩ := Option.map_eq_some_iff.mp e
    cases e2
    exact ⟨q'.1, q'.2.1, e1, rfl⟩
  · have hlen : (mergeX [] kvs).length ≤ sizeLine := by
      refine Nat.le_trans (mergeX_len kvs []) ?_
      rw [List.length_nil, Nat.zero_add, Paired.length rel, hl]
      exact hz
    exact ⟨.ref s.heap.objs.size, _, I.laid (t' := tk) (fun b o e => hk' b o (fun z => nomatch z) e) (Nat.le_refl _) (kdO_ok (kd_new hlen hm (rel_merge rel .nil) hd')), rfl, q _ (I.hok.fresh (Nat.le_refl _))⟩
/-- sorted(d) -/
def rSortKd (K : PySem.W.Frag) (w : World) : List V → Hp → VK → Prop := fun vs H Q => ∃ (a : Addr) (xs : KX), vs = [V.ref a] ∧ H a = some (KdO w a xs) ∧ KeysAt K H xs ∧ PySem.W.AllAlike (xs.map (·.1.data)) ∧ PySem.W.Sortable (xs.map (·.1.data)) ∧
  ∀ p, H p = none → Q (.ref p) (upd H p (.lst (((xs.map fun x => (V.ref x.2.1, x.1.data)).mergeSort (PySem.W.dataLe false Prod.snd)).map Prod.fst)))
theorem each_keys {h : Heap} {L : Addr} : ∀ {xs : KX} {ys : List (NestedKey × Addr × Value)}, Paired KRel xs ys → (∀ x ∈ xs, ∃ as, Reads h (.ref x.2.1) x.1.data as) →
    PySem.W.EachIs (fun (u : Value) (b : V × PyData) => RelV b.1 u) (ys.map fun y => Value.ref y.2.1) (xs.map fun x => (V.ref x.2.1, x.1.data)) ∧
    PySem.W.EachIs (fun (u : Value) (b : V × PyData) => ∃ as, Reads h u (Prod.snd b) as ∧ L ∉ as) (ys.map fun y => Value.ref y.2.1) (xs.map fun x => (V.ref x.2.1, x.1.data))
  | _, _, .nil, _ => ⟨.nil, .nil⟩
  | _, _, .cons (a := x) (b := y) r t, hr => by
    obtain ⟨h1, h2⟩ := each_keys (L := L) t fun z hz => hr z (List.mem_cons_of_mem _ hz)
    obtain ⟨as, ra⟩ := hr x List.mem_cons_self
    have e : x.2.1 = y.2.1 := r.2.1
    refine ⟨.cons (by show Value.ref y.2.1 = Value.ref x.2.1; rw [e]) h1, .cons ⟨as, (by show Reads h (Value.ref y.2.1) x.1.data as; rw [← e]; exact ra), by rw [reads_nil _ ra]; simp⟩ h2⟩
open PySem.Calls PyProof.Rows PySem.W in
theorem cr_sortKd (hc : X.calm = true) (hu : X.A.units + 65 < cLine) : CallR X (.builtin "sorted") (rSortKd X.K X.w) := by
  intro pins s σ H vs us Q I r h
  obtain ⟨a, xs, rfl, e, ka, hal, hk, q⟩ := h
  obtain ⟨z, hd, ys, rel, dd⟩ := kd_at I e ka
  obtain ⟨o, es, ep, ho, hx, hdat, he, his, hn⟩ := dd
  have R : s.heap.DictRaw a es ep := ⟨o, ho, hx, hdat⟩
  have hes : es.size = ys.length := by rw [← Array.length_toList, he, List.length_map]
  have hyl : ys.length ≤ sizeLine := by rw [← Paired.length rel]; exact z
  have hxl : xs.length = ys.length := Paired.length rel
  rw [Vals.ref1 r]
  refine call_function_entry kind_sorted plain_sorted entry_sorted (args_sorted1 _) ?_
  unfold Builtin.«sorted»
  refine wpAny_bind (m := checkCount "sorted" 1 1 _) (wpAny_pure ?_)
  refine wpAny_bind (kdu_collect (A := X.A.in1) (KdlSrc.rawDict hd) (I.ok.hd hc) R (by rw [hes]; exact hyl) fun h' tk acc hk' hacc => ?_)
  have hv : acc.toList = ys.map fun y => Value.ref y.2.1 := by
    refine List.ext_getElem? fun j => ?_
    rw [Array.getElem?_toList, List.getElem?_map]
    by_cases hj : j < ys.length
    · have hj1 : j < acc.size := by rw [hacc.1, hes]; exact hj
      obtain ⟨hi, e1⟩ := hacc.2 j acc[j] (Array.getElem?_eq_getElem hj1)
      rw [Array.getElem?_eq_getElem hj1, e1, List.getElem?_eq_getElem hj]
      have e2 := entry_at (knd := nestedKind X.prog X.w) he j
      rw [Array.getElem?_eq_getElem hi, List.getElem?_eq_getElem hj] at e2
      have e3 : es[j] = entryOfKey (nestedKind X.prog X.w) ys[j] := Option.some.inj e2
      rw [e3]
      rfl
    · rw [Array.getElem?_eq_none (by rw [hacc.1, hes]; omega), List.getElem?_eq_none (by omega)]
      rfl
  rw [hv]
  have hvl : (ys.map fun y => Value.ref y.2.1).length = ys.length := List.length_map _
  refine wpAny_bind (wpAny_newList ?_ (by rw [hvl]; exact hyl))
  have hoL : (h'.push (seqObj "list" (ys.map fun y => Value.ref y.2.1).toArray 0)).get? h'.objs.size = some (seqObj "list" (ys.map fun y => Value.ref y.2.1).toArray 0) := Heap.get?_push_size _ rfl
  have hkp : ∀ b o, s.heap.get? b = some o → (h'.push (seqObj "list" (ys.map fun y => Value.ref y.2.1).toArray 0)).get? b = some o := fun b o q => Heap.get?_push_of_some _ (hk' b o q)
  obtain ⟨e1, e2⟩ := each_keys (h := h'.push (seqObj "list" (ys.map fun y => Value.ref y.2.1).toArray 0)) (L := h'.objs.size) rel fun x hx' => by
    obtain ⟨as, r1, _⟩ := Dt.reads I (ka x hx').1 (u := .ref x.2.1) rfl
    exact ⟨as, Reads.keeps hkp r1⟩
  have em : (xs.map fun x => (V.ref x.2.1, x.1.data)).map Prod.snd = xs.map (·.1.data) := by rw [List.map_map]; rfl
  refine wpAny_bind (wpAny_holding (PySem.W.list_sort_data (enc := Prod.snd) hoL e1 e2 (by rw [em]; exact hal) (by rw [em]; exact hk) (by rw [List.length_map]; exact z) (fun b hb => ?_) fun out h1 h2 => ?_))
  · obtain ⟨x, hx', rfl⟩ := List.mem_map.mp hb
    show X.A.units + 1 + 1 + x.1.data.depth < cLine
    rw [key_depth]
    have := (ka x hx').2
    omega
  obtain ⟨c, hc'⟩ := sortedHeap_at (vs := ys.map fun y => Value.ref y.2.1) (out := List.toArray out) hoL
  have hv2 := each_vals h2
  have I1 : Inv X pins σ H { s with heap := h', toks := tk } := I.kept hk'
  have hn' : H h'.objs.size = none := I1.hok.fresh (Nat.le_refl _)
  have hlen : ((((xs.map fun x => (V.ref x.2.1, x.1.data)).mergeSort (PySem.W.dataLe false Prod.snd)).map Prod.fst)).length ≤ sizeLine := by
    rw [List.length_map, (List.mergeSort_perm _ _).length_eq, List.length_map]
    exact z
  refine wpAny_pure ⟨_, rfl, .ref _, upd H h'.objs.size (.lst _), I1.laid (t' := tk) (fun b u e => ?_) (Nat.le_refl _) ⟨hlen, out, c, hv2, hc'⟩, rfl, q _ hn'⟩
  have hlt := Heap.lt_size e
  show (sortedHeap (h'.push (seqObj "list" (ys.map fun y => Value.ref y.2.1).toArray 0)) h'.objs.size (ys.map fun y => Value.ref y.2.1) (List.toArray out)).get? b = some u
  rw [sortedHeap_old (Nat.ne_of_lt hlt) (by rw [size_push']; exact Nat.lt_succ_of_lt hlt)]
  exact Heap.get?_push_of_some _ e
end
end DL

/-! Dicts whose keys are tuples, in the data layer. -/
namespace DL
open PySem L2

section
variable {X : Cx} {o i e f value : Expr} {pos pos' apos cpos : Pos} {td ty tv tx : TE}
theorem pe_kdgetK (K : PySem.W.Frag) (w : World) (hu : X.A.units + 65 < cLine) (ho : PE X o td) (hi : PE X i ty) (hs : NoSl i) (hK : X.K = K := by rfl) (hw : X.w = w := by rfl) : PE X (.Subscript o i pos) (tKdGet K w td ty) := by
  subst hK hw
  exact pe_kdget hu ho hi hs
theorem pc_kdinK (K : PySem.W.Frag) (w : World) (hu : X.A.units + 65 < cLine) (hi : PE X i ty) (ho : PE X o td) (hK : X.K = K := by rfl) (hw : X.w = w := by rfl) : PC X .In i o (tKdIn K w ty td) := by
  subst hK hw
  exact pc_kdin hu hi ho
theorem pc_kdniK (K : PySem.W.Frag) (w : World) (hu : X.A.units + 65 < cLine) (hi : PE X i ty) (ho : PE X o td) (hK : X.K = K := by rfl) (hw : X.w = w := by rfl) : PC X .NotIn i o (tKdNi K w ty td) := by
  subst hK hw
  exact pc_kdni hu hi ho
theorem ps_kdputK (K : PySem.W.Frag) (w : World) (hu : X.A.units + 65 < cLine) (ho : PE X o td) (hi : PE X i ty) (hv : PE X value tv) (hs : swapsWith value (some (.Subscript o i pos')) pos.line X.env = pure false) (hK : X.K = K := by rfl) (hw : X.w = w := by rfl) :
    PS X (.Assign [.Subscript o i pos'] value pos) (sKdPut K w td ty tv) := by
  subst hK hw
  exact ps_kdput hu ho hi hv hs
theorem set_kdK (K : PySem.W.Frag) (w : World) (hu : X.A.units + 65 < cLine) (hK : X.K = K := by rfl) (hw : X.w = w := by rfl) : PSet X (rKdPut K w) := by
  subst hK hw
  exact set_kd hu
theorem pe_kdsetdK (K : PySem.W.Frag) (w : World) (hu : X.A.units + 65 < cLine) (ho : PE X o td) (he : PE X e ty) (hf : PE X f tx) (m : M2 X o "setdefault" apos e f cpos) (hK : X.K = K := by rfl) (hw : X.w = w := by rfl) : PE X (.Call (.Attribute o "setdefault" apos) [e, f] [] cpos) (tKdSetd K w td ty tx) := by
  subst hK hw
  exact pe_kdsetd hu ho he hf m
theorem pe_kdnewK (w : World) (hw : X.w = w := by rfl) : PE X (.Dict [] [] pos) (tKdNew w) := by
  subst hw
  exact pe_kdnew
theorem pe_kddispK (K : PySem.W.Frag) (w : World) (hu : X.A.units + 65 < cLine) {keys : List (Option Expr)} {values : List Expr} {trs : List (TE × TE)} (h : PPs X pos keys values trs) (hall : keys.all (·.isSome) = true) (hl : keys.length = values.length) (h0 : keys ≠ [])
    (h15 : keys.length ≤ 15) (hK : X.K = K := by rfl) (hw : X.w = w := by rfl) : PE X (.Dict keys values pos) (tKdDisp K w trs) := by
  subst hK hw
  exact pe_kddisp hu h hall hl h0 h15
theorem call_dictKdK (K : PySem.W.Frag) (w : World) (hc : X.calm = true) (hu : X.A.units + 65 < cLine) (hK : X.K = K := by rfl) (hw : X.w = w := by rfl) : CallR X (.type "dict") (rDictKd K w) := by
  subst hK hw
  exact call_dictKd hc hu
theorem cr_sortKdK (K : PySem.W.Frag) (w : World) (hc : X.calm = true) (hu : X.A.units + 65 < cLine) (hK : X.K = K := by rfl) (hw : X.w = w := by rfl) : CallR X (.builtin "sorted") (rSortKd K w) := by
  subst hK hw
  exact cr_sortKd hc hu
end
section
variable {K : PySem.W.Frag} {w : World} {F : Hp}
abbrev KdR (K : PySem.W.Frag) (F : Hp) : KX → List (NestedKey × SV) → Prop := Paired fun (x : NestedKey × Addr × V) (y : NestedKey × SV) => x.1 = y.1 ∧ SR K F x.2.2 y.2
theorem kd_look {x : NestedKey} : ∀ {xs : KX} {kvs : List (NestedKey × SV)}, KdR K F xs kvs → (∀ s, lookS kvs x = some s → ∃ v, atX xs x = some v ∧ SR K F v s) ∧ (lookS kvs x = none → atX xs x = none)
  | _, _, .nil => ⟨fun s h => (by cases h), fun _ => rfl⟩
  | _, _, .cons (a := a) (b := b) (l₁ := l₁) (l₂ := l₂) r t => by
    obtain ⟨r1, r2⟩ := r
    have e1 : atX (a :: l₁) x = if a.1 = x then some a.2.2 else atX l₁ x := by
      unfold atX
      rw [List.find?_cons]
      by_cases h : a.1 = x
      · simp [h]
      · simp [h]
    have e2 : lookS (b :: l₂) x = if b.1 = x then some b.2 else lookS l₂ x := by
      unfold lookS
      rw [List.find?_cons]
      by_cases h : b.1 = x
      · simp [h]
      · simp [h]
    rw [e1, e2, ← r1]
    obtain ⟨i1, i2⟩ := kd_look (x := x) t
    by_cases h : a.1 = x
    · rw [if_pos h, if_pos h]
      exact ⟨fun s e => ⟨a.2.2, rfl, by rw [← Option.some.inj e]; exact r2⟩, fun e => (by cases e)⟩
    · rw [if_neg h, if_neg h]
      exact ⟨i1, i2⟩
theorem kd_some {x : NestedKey} {xs : KX} {kvs : List (NestedKey × SV)} (h : KdR K F xs kvs) : (atX xs x).isSome = (lookS kvs x).isSome := by
  obtain ⟨h1, h2⟩ := kd_look (x := x) h
  cases e : lookS kvs x with
  | none => rw [h2 e]; rfl
  | some s => obtain ⟨v, e2, _⟩ := h1 s e; rw [e2]; rfl
theorem kd_any {x : NestedKey} : ∀ {xs : KX} {kvs : List (NestedKey × SV)}, KdR K F xs kvs → (xs.any fun z => decide (z.1 = x)) = kvs.any fun kv => decide (kv.1 = x)
  | _, _, .nil => rfl
  | _, _, .cons r t => by rw [List.any_cons, List.any_cons, kd_any t, r.1]
theorem kd_map {x : NestedKey} {v : V} {s : SV} (r : SR K F v s) : ∀ {xs : KX} {kvs : List (NestedKey × SV)}, KdR K F xs kvs → KdR K F (xs.map fun z => if z.1 = x then (z.1, z.2.1, v) else z) (kvs.map fun kv => if kv.1 = x then (kv.1, s) else kv)
  | _, _, .nil => .nil
  | _, _, .cons (a := a) (b := b) q t => by
    refine .cons ?_ (kd_map r t)
    show (if a.1 = x then (a.1, a.2.1, v) else a).1 = (if b.1 = x then (b.1, s) else b).1 ∧ SR K F (if a.1 = x then (a.1, a.2.1, v) else a).2.2 (if b.1 = x then (b.1, s) else b).2
    by_cases h : a.1 = x
    · have hb : b.1 = x := q.1 ▸ h
      rw [if_pos h, if_pos hb]
      exact ⟨q.1, r⟩
    · have hb : ¬ b.1 = x := q.1 ▸ h
      rw [if_neg h, if_neg hb]
      exact q
theorem kd_put {xs : KX} {kvs : List (NestedKey × SV)} {x : NestedKey} {b : Addr} {v : V} {s : SV} (h : KdR K F xs kvs) (r : SR K F v s) : KdR K F (putX xs x b v) (putS kvs x s) := by
  unfold putX putS
  rw [kd_any h]
  split
  · exact kd_map r h
  · exact papp h (.cons ⟨rfl, r⟩ .nil)
theorem keys_put {xs : KX} {x : NestedKey} {b : Addr} {v : V} (h : KeysAt K F xs) (hd : Dt K F (.ref b) x.data) (h8 : x.depth ≤ 8) : KeysAt K F (putX xs x b v) := by
  unfold putX
  split
  · intro z hz
    obtain ⟨y, hy, rfl⟩ := List.mem_map.mp hz
    split
    · exact h y hy
    · exact h y hy
  · intro z hz
    rcases List.mem_append.mp hz with hz | hz
    · exact h z hz
    · rw [List.mem_singleton.mp hz]
      exact ⟨hd, h8⟩
def mergeN (kvs more : List (NestedKey × SV)) : List (NestedKey × SV) := more.foldl (fun acc kv => putS acc kv.1 kv.2) kvs
theorem kd_merge : ∀ {more : KX} {moreS : List (NestedKey × SV)} {xs : KX} {kvs : List (NestedKey × SV)}, KdR K F more moreS → KdR K F xs kvs → KdR K F (mergeX xs more) (mergeN kvs moreS)
  | _, _, _, _, .nil, h => h
  | _, _, xs, kvs, .cons (a := (k, b, v)) (b := (k', s)) (l₁ := l₁) (l₂ := l₂) r t, h => by
    obtain ⟨r1, r2⟩ := r
    have r1 : k = k' := r1
    subst r1
    show KdR K F (mergeX (putX xs k b v) l₁) (mergeN (putS kvs k s) l₂)
    exact kd_merge t (kd_put h r2)
theorem keys_merge : ∀ {more xs : KX}, KeysAt K F more → KeysAt K F xs → KeysAt K F (mergeX xs more)
  | [], _, _, h => h
  | x :: more, xs, hm, h => by
    obtain ⟨h1, h2⟩ := hm x List.mem_cons_self
    exact keys_merge (more := more) (fun y hy => hm y (List.mem_cons_of_mem _ hy)) (keys_put h h1 h2)
/-- the key k as what stands in a slot -/
structure KeyS (s : SV) (k : NestedKey) : Prop where
  is : s = .dat k.data
  tup : ∃ ks, k = .tup ks
  deep : k.depth ≤ 8
theorem KeyS.at {s : SV} {x : NestedKey} {v : V} (h : KeyS s x) (r : SR K F v s) : KyAt K F v x := by
  obtain ⟨rfl, ⟨ks, rfl⟩, h8⟩ := h
  exact ⟨ks, rfl, h8, r⟩
theorem KyAt.mono {F' : Hp} {v : V} {x : NestedKey} (e : Same F F') (h : KyAt K F v x) : KyAt K F' v x := let ⟨ks, a, b, c⟩ := h; ⟨ks, a, b, c.mono e⟩
end
section
variable {K : PySem.W.Frag} {w : World} {A : Amb} {S : List SV} {k : KA} {td ty tx tv te to ti : TE} {E : DE}
theorem wp_kdget (h : Wp K A td S fun A1 s => Wp K A1 ty S fun A2 s2 => ∃ p kvs x v, s = .ptr p ∧ KeyS s2 x ∧ (p, .kd w kvs) ∈ A2.cells ∧ lookS kvs x = some v ∧ k A2 v) : Wp K A (tKdGet K w td ty) S k := fun R F σ H Q a sd q =>
  h R F σ H _ a sd fun A1 s v F1 H1 h1 e1 a1 r1 => h1 R F1 σ H1 _ a1 (sd.mono e1) fun A2 s2 u F2 H2 ⟨p, kvs, x, z, hs, hk, hp, hz, hq⟩ e2 a2 r2 => by
    subst hs
    obtain rfl : v = .ref p := r1
    obtain ⟨xs, h3, h4, h5⟩ := a2.cell hp
    obtain ⟨y, h6, h7⟩ := (kd_look h5).1 z hz
    exact ⟨p, xs, x, y, rfl, h3, h4.mono a2.same, (hk.at r2).mono a2.same, h6, q A2 _ _ F2 H2 hq (e1.trans e2) a2 h7⟩
theorem wp_kdin (h : Wp K A ty S fun A1 s1 => Wp K A1 td S fun A2 s2 => ∃ p kvs x, s2 = .ptr p ∧ KeyS s1 x ∧ (p, .kd w kvs) ∈ A2.cells ∧ k A2 (.dat (.bool (lookS kvs x).isSome))) : Wp K A (tKdIn K w ty td) S k := fun R F σ H Q a sd q =>
  h R F σ H _ a sd fun A1 s v F1 H1 h1 e1 a1 r1 => h1 R F1 σ H1 _ a1 (sd.mono e1) fun A2 s2 u F2 H2 ⟨p, kvs, x, hs, hk, hp, hq⟩ e2 a2 r2 => by
    subst hs
    obtain rfl : u = .ref p := r2
    obtain ⟨xs, h3, h4, h5⟩ := a2.cell hp
    refine ⟨p, xs, x, rfl, h3, h4.mono a2.same, (hk.at (r1.mono e2)).mono a2.same, ?_⟩
    rw [kd_some h5]
    exact q A2 _ _ F2 H2 hq (e1.trans e2) a2 (.bl _)
theorem wp_kdni (h : Wp K A ty S fun A1 s1 => Wp K A1 td S fun A2 s2 => ∃ p kvs x, s2 = .ptr p ∧ KeyS s1 x ∧ (p, .kd w kvs) ∈ A2.cells ∧ k A2 (.dat (.bool (!(lookS kvs x).isSome)))) : Wp K A (tKdNi K w ty td) S k := fun R F σ H Q a sd q =>
  h R F σ H _ a sd fun A1 s v F1 H1 h1 e1 a1 r1 => h1 R F1 σ H1 _ a1 (sd.mono e1) fun A2 s2 u F2 H2 ⟨p, kvs, x, hs, hk, hp, hq⟩ e2 a2 r2 => by
    subst hs
    obtain rfl : u = .ref p := r2
    obtain ⟨xs, h3, h4, h5⟩ := a2.cell hp
    refine ⟨p, xs, x, rfl, h3, h4.mono a2.same, (hk.at (r1.mono e2)).mono a2.same, ?_⟩
    rw [kd_some h5]
    exact q A2 _ _ F2 H2 hq (e1.trans e2) a2 (.bl _)
theorem kd_store {R : List (Addr × Cell)} {F H : Hp} {p b : Addr} {kvs : List (NestedKey × SV)} {x : NestedKey} {v : V} {s : SV} {l' : List (Addr × Cell)} (a : AtR K A R F H) (u : Upd A.cells p (.kd w kvs) (.kd w (putS kvs x s)) l') (ky : KyAt K F (.ref b) x) (r : SR K F v s) :
    ∃ xs, H p = some (KdO w p xs) ∧ KeysAt K H xs ∧ xs.length = kvs.length ∧ AtR K ⟨A.I, l'⟩ R F (upd H p (KdO w p (putX xs x b v))) := by
  obtain ⟨xs, h3, h4, h5⟩ := a.cell u.mem
  obtain ⟨b', eb, h8, hb⟩ := ky.ref
  cases eb
  exact ⟨xs, h3, h4.mono a.same, h5.length, a.put u ⟨_, upd_same, keys_put h4 hb h8, kd_put h5 r⟩⟩
theorem go_kdput (h : Wp K A tv S fun A1 s => Wp K A1 td S fun A2 s2 => Wp K A2 ty S fun A3 s3 => ∃ p kvs x l', s2 = .ptr p ∧ KeyS s3 x ∧ Upd A3.cells p (.kd w kvs) (.kd w (putS kvs x s)) l' ∧ kvs.length < sizeLine ∧ E.nx ⟨A3.I, l'⟩ S) : Go K A (sKdPut K w td ty tv) S E := fun R F σ H D a sd o =>
  h R F σ H _ a sd fun A1 s v F1 H1 h1 e1 a1 r1 => h1 R F1 σ H1 _ a1 (sd.mono e1) fun A2 s2 u F2 H2 h2 e2 a2 r2 => h2 R F2 σ H2 _ a2 ((sd.mono e1).mono e2) fun A3 s3 y F3 H3 ⟨p, kvs, x, l', hs, hk, hu, hl, hq⟩ e3 a3 r3 => by
    subst hs
    obtain rfl : u = .ref p := r2
    have ky := hk.at r3
    obtain ⟨b, rfl, h8, hb⟩ := ky.ref
    obtain ⟨xs, h3, h4, h5, a4⟩ := kd_store a3 hu ky (r1.mono (e2.trans e3))
    exact ⟨p, b, xs, x, rfl, rfl, h3, h4, ky.mono a3.same, by rw [h5]; exact hl, o.nx _ _ _ _ _ hq ((e1.trans e2).trans e3) a4 (sd.mono ((e1.trans e2).trans e3))⟩
theorem gw_kdsub {s : SV} {kk : KS} (h : Wp K A to S fun A1 s1 => Wp K A1 ti S fun A2 s2 => ∃ p kvs x l', s1 = .ptr p ∧ KeyS s2 x ∧ Upd A2.cells p (.kd w kvs) (.kd w (putS kvs x s)) l' ∧ kvs.length < sizeLine ∧ kk ⟨A2.I, l'⟩ S) : GW K (gSub to ti (rKdPut K w)) s S A kk := fun R F σ H v Q a sd r q =>
  h R F σ H _ a sd fun A1 s1 u F1 H1 h1 e1 a1 r1 => h1 R F1 σ H1 _ a1 (sd.mono e1) fun A2 s2 y F2 H2 ⟨p, kvs, x, l', hs, hk, hu, hl, hq⟩ e2 a2 r2 => by
    subst hs
    obtain rfl : u = .ref p := r1
    have ky := hk.at r2
    obtain ⟨b, rfl, h8, hb⟩ := ky.ref
    obtain ⟨xs, h3, h4, h5, a4⟩ := kd_store a2 hu ky (r.mono (e1.trans e2))
    exact ⟨p, b, xs, x, rfl, rfl, h3, h4, ky.mono a2.same, by rw [h5]; exact hl, q _ _ _ _ _ hq (e1.trans e2) a4 (sd.mono (e1.trans e2))⟩
theorem wp_kdsetd (h : Wp K A td S fun A1 s => ∃ p kvs0, s = .ptr p ∧ (p, .kd w kvs0) ∈ A1.cells ∧ Wp K A1 ty S fun A2 s2 => Wp K A2 tx S fun A3 s3 => ∃ kvs x, KeyS s2 x ∧ (p, .kd w kvs) ∈ A3.cells ∧ kvs.length < sizeLine ∧ (∀ v, lookS kvs x = some v → k A3 v) ∧
    (lookS kvs x = none → ∃ l', Upd A3.cells p (.kd w kvs) (.kd w (putS kvs x s3)) l' ∧ k ⟨A3.I, l'⟩ s3)) : Wp K A (tKdSetd K w td ty tx) S k := fun R F σ H Q a sd q =>
  h R F σ H _ a sd fun A1 s v F1 H1 ⟨p, kvs0, hs, hp0, h1⟩ e1 a1 r1 => by
    subst hs
    obtain rfl : v = .ref p := r1
    obtain ⟨xs0, g1, _⟩ := a1.cell hp0
    refine ⟨p, rfl, ⟨xs0, g1⟩, h1 R F1 σ H1 _ a1 (sd.mono e1) fun A2 s2 y F2 H2 h2 e2 a2 r2 => h2 R F2 σ H2 _ a2 ((sd.mono e1).mono e2) fun A3 s3 z F3 H3 ⟨kvs, x, hk, hp, hl, hq1, hq2⟩ e3 a3 r3 => ?_⟩
    have ky := hk.at (r2.mono e3)
    obtain ⟨b, rfl, h8, hb⟩ := ky.ref
    obtain ⟨xs, h3, h4, h5⟩ := a3.cell hp
    refine ⟨xs, x, b, rfl, h3, h4.mono a3.same, ky.mono a3.same, by rw [h5.length]; exact hl, fun v hv => ?_, fun hn => ?_⟩
    · cases e : lookS kvs x with
      | none => rw [(kd_look h5).2 e] at hv; cases hv
      | some s' =>
        obtain ⟨v', e2', r'⟩ := (kd_look h5).1 s' e
        rw [hv] at e2'
        cases e2'
        exact q A3 s' v F3 H3 (hq1 s' e) ((e1.trans e2).trans e3) a3 r'
    · cases e : lookS kvs x with
      | some s' =>
        obtain ⟨v', e2', r'⟩ := (kd_look h5).1 s' e
        rw [hn] at e2'
        cases e2'
      | none =>
        obtain ⟨l', hu, hk'⟩ := hq2 e
        exact q _ s3 z F3 _ hk' ((e1.trans e2).trans e3) (a3.put hu ⟨_, upd_same, keys_put h4 hb h8, kd_put h5 r3⟩) r3
theorem wp_kdnew (h : ∀ p, k (A.add p (.kd w [])) (.ptr p)) : Wp K A (tKdNew w) S k := fun R F σ H Q a sd q p hp => q _ _ _ _ _ (h p) (Same.refl F) (a.new (o := KdO w p []) (c := .kd w []) hp ⟨[], upd_same, (fun x hx => by cases hx), .nil⟩) rfl
def KeysN : List (SV × SV) → List (NestedKey × SV) → Prop := Paired fun (p : SV × SV) (q : NestedKey × SV) => KeyS p.1 q.1 ∧ p.2 = q.2
theorem keysN_v {F : Hp} : ∀ {ps : List (SV × SV)} {qs : List (V × V)} {kvs : List (NestedKey × SV)}, KeysN ps kvs → Paired (fun (x : V × V) (y : SV × SV) => SR K F x.1 y.1 ∧ SR K F x.2 y.2) qs ps → ∃ xs : KX, qs = xs.map (fun x => (V.ref x.2.1, x.2.2)) ∧ (∀ x ∈ xs, KyAt K F (.ref x.2.1) x.1) ∧ KdR K F xs kvs
  | _, _, _, .nil, .nil => ⟨[], rfl, (fun x hx => by cases hx), .nil⟩
  | _, _, _, .cons (a := p) (b := q) h t, .cons (a := v) r rs => by
    obtain ⟨xs, rfl, h2, h3⟩ := keysN_v t rs
    have ky := h.1.at r.1
    obtain ⟨b, eb, h8, hb⟩ := ky.ref
    obtain ⟨v1, v2⟩ := v
    have eb : v1 = .ref b := eb
    subst eb
    refine ⟨(q.1, b, v2) :: xs, rfl, fun x hx => ?_, .cons ⟨rfl, by rw [← h.2]; exact r.2⟩ h3⟩
    rcases List.mem_cons.mp hx with rfl | hx
    · exact ky
    · exact h2 x hx
theorem keys_ky {F : Hp} {xs : KX} (h : ∀ x ∈ xs, KyAt K F (.ref x.2.1) x.1) : KeysAt K F xs := fun x hx => by
  obtain ⟨b, eb, h8, hb⟩ := (h x hx).ref
  cases eb
  exact ⟨hb, h8⟩
theorem wp_kddisp {trs : List (TE × TE)} (h : WpP K trs A S fun A1 ps => ∃ kvs, KeysN ps kvs ∧ kvs.length ≤ 15 ∧ ∀ p, k (A1.add p (.kd w (mergeN [] kvs))) (.ptr p)) : Wp K A (tKdDisp K w trs) S k := fun R F σ H Q a sd q p hp => by
  have a1 := (AtR.new (o := KdO w p []) (c := .kd w []) a hp ⟨[], upd_same, (fun x hx => by cases hx), .nil⟩).back
  refine wpp_run h a1 sd fun A1 ps qs F1 H1 ⟨kvs, h1, h2, h3⟩ e1 a2 r => ?_
  obtain ⟨_, _, us, f3, f4, f5⟩ := At.cell a2 p (.kd w []) (List.mem_append_right _ List.mem_cons_self)
  have f5' : KdR K F1 us [] := f5
  cases f5'
  obtain ⟨xs, g1, g2, g3⟩ := keysN_v h1 r
  refine ⟨f3, xs, g1, fun x hx => (g2 x hx).mono a2.same, by rw [g3.length]; exact h2, ?_⟩
  have a3 := (a2.front).put (o := KdO w p (mergeX [] xs)) (c' := .kd w (mergeN [] kvs)) .head ⟨_, upd_same, keys_merge (keys_ky g2) (fun x hx => by cases hx), kd_merge g3 .nil⟩
  exact q _ _ _ _ _ (h3 p) e1 a3 rfl
theorem pairsN_dt {F : Hp} : ∀ {xs : List V} {prs : List (NestedKey × PyData)}, (∀ q ∈ prs, (∃ ks, q.1 = .tup ks) ∧ q.1.depth ≤ 8) → DtAll K F xs (prs.map fun q => .tuple [q.1.data, q.2]) → ∃ (ps : List Addr) (kvs : KX), xs = ps.map V.ref ∧ Paired (fun p x => SqT K F p [V.ref x.2.1, x.2.2]) ps kvs ∧ (∀ x ∈ kvs, KyAt K F (.ref x.2.1) x.1) ∧ KdR K F kvs (prs.map fun q => (q.1, SV.dat q.2))
  | _, [], _, .nil => ⟨[], [], rfl, .nil, (fun x hx => by cases hx), .nil⟩
  | _, pr :: prs, hk, .cons h t => by
    obtain ⟨ps, kvs, rfl, h1, h2, h3⟩ := pairsN_dt (fun q hq => hk q (List.mem_cons_of_mem _ hq)) t
    obtain ⟨⟨ks, ek⟩, h8⟩ := hk pr List.mem_cons_self
    have h' : Dt K F _ (.tuple [pr.1.data, pr.2]) := h
    cases h' with
    | tup hq hd =>
      cases hd with
      | cons d1 d2 =>
        cases d2 with
        | cons d3 d4 =>
          cases d4
          have ky : KyAt K F _ pr.1 := ⟨ks, ek, h8, d1⟩
          obtain ⟨b, rfl, _, _⟩ := ky.ref
          refine ⟨_ :: ps, (pr.1, b, _) :: kvs, rfl, .cons hq h1, fun x hx => ?_, .cons ⟨rfl, d3⟩ h3⟩
          rcases List.mem_cons.mp hx with rfl | hx
          · exact ky
          · exact h2 x hx
theorem cw_dictKd {prs : List (NestedKey × PyData)} (hk : ∀ q ∈ prs, (∃ ks, q.1 = .tup ks) ∧ q.1.depth ≤ 8) (h : ∀ p, k (A.add p (.kd w (mergeN [] (prs.map fun q => (q.1, SV.dat q.2))))) (.ptr p)) : CW K (rDictKd K w) [.dat (.list (prs.map fun q => .tuple [q.1.data, q.2]))] A k := fun R F H vs Q a r q => by
  obtain ⟨v, rfl, r1⟩ := one_of r
  obtain ⟨p, xs, rfl, f1, f2⟩ := sr_lst r1
  obtain ⟨ps, kvs, rfl, g1, g2, g3⟩ := pairsN_dt hk f2
  refine ⟨p, ps, kvs, rfl, .inl (.inl (a.same _ _ f1)), Paired.mono (fun _ _ q => same_t a.same q) g1, fun x hx => (g2 x hx).mono a.same, fun l hl => ?_⟩
  exact q _ _ _ _ _ (h l) (Same.refl F) (a.new (o := KdO w l (mergeX [] kvs)) (c := .kd w _) hl ⟨_, upd_same, keys_merge (keys_ky g2) (fun x hx => by cases hx), kd_merge g3 .nil⟩) rfl
theorem keys_dtAll {F : Hp} : ∀ {xs : KX} {kvs : List (NestedKey × SV)}, KeysAt K F xs → Paired (fun (x : NestedKey × Addr × V) (y : NestedKey × SV) => x.1 = y.1 ∧ SR K F x.2.2 y.2) xs kvs → DtAll K F (xs.map fun x => V.ref x.2.1) (kvs.map (·.1.data)) ∧ xs.map (·.1.data) = kvs.map (·.1.data)
  | [], [], _, .nil => ⟨.nil, rfl⟩
  | x :: _, y :: _, h, .cons r t => by
    obtain ⟨h1, h2⟩ := keys_dtAll (fun z hz => h z (List.mem_cons_of_mem _ hz)) t
    have hx := (h x List.mem_cons_self).1
    refine ⟨.cons (by show Dt K F (V.ref x.2.1) y.1.data; rw [← r.1]; exact hx) h1, by rw [List.map_cons, List.map_cons, h2, r.1]⟩
theorem cw_sortKd {p : Addr} {kvs : List (NestedKey × SV)} (hp : (p, .kd w kvs) ∈ A.cells) (hal : PySem.W.AllAlike (kvs.map (·.1.data))) (hs : PySem.W.Sortable (kvs.map (·.1.data))) (h : ∀ q, k (A.add q (.lst ((dsort (kvs.map (·.1.data))).map .dat))) (.ptr q)) : CW K (rSortKd K w) [.ptr p] A k := fun R F H vs Q a r q => by
  obtain ⟨v, rfl, r1⟩ := one_of r
  obtain rfl : v = .ref p := r1
  obtain ⟨xs, h3, h4, h5⟩ := a.cell hp
  obtain ⟨g1, g2⟩ := keys_dtAll h4 h5
  refine ⟨p, xs, rfl, h3, h4.mono a.same, by rw [g2]; exact hal, by rw [g2]; exact hs, fun l hl => ?_⟩
  have e : (xs.map fun x => (V.ref x.2.1, x.1.data)) = (xs.map fun x => V.ref x.2.1).zip (kvs.map (·.1.data)) := by
    rw [← g2, List.zip_map']
  rw [e]
  exact q _ _ _ _ _ (h l) (Same.refl F) (a.new (o := .lst _) (c := .lst _) hl ⟨_, upd_same, dats_srs (sort_dt g1)⟩) rfl
end
end DL

/-! Sets of pairs of which few are unlike: set(xs), sorted(set(xs)). -/
namespace DL
open PySem L2 RZ PyProof.Rows PySem.Spec
open Sem (wp)
theorem len_sub {α : Type} [DecidableEq α] : ∀ {l m : List α}, l.Nodup → (∀ x ∈ l, x ∈ m) → l.length ≤ m.length
  | [], _, _, _ => Nat.zero_le _
  | x :: l, m, hn, h => by
    have h1 := List.nodup_cons.mp hn
    have hx := h x List.mem_cons_self
    have ih := len_sub (l := l) (m := m.erase x) h1.2 fun y hy => (List.mem_erase_of_ne (fun e => h1.1 (by rw [← e]; exact hy))).mpr (h y (List.mem_cons_of_mem _ hy))
    rw [List.length_erase_of_mem hx] at ih
    have := List.length_pos_of_mem hx
    rw [List.length_cons]
    omega
section
variable {prog : Program} {w : World} {A : Around} {R : Result → Shared → Prop} {I : Addr} {fp wr : List Addr} {G : Array GenState → Array GenState → Prop} {n : Nat} {P : Nat → Value → Prop} {St : Nat → Shared → Prop}
theorem loop_pairs (W : WalksS prog w A.in1 I fp wr G n P St) (S : Addr) (hSf : S ∉ fp) (ks : List (Addr × List Int)) (D : List (List Int)) (hD : D.length + 1 < 64) (hin : ∀ p ∈ ks, p.2 ∈ D) (hsz : ks.length = n) (g0 : Heap) (hk0 : ∀ p ∈ ks, IsT prog w g0 p.2 p.1) (hS0 : g0.get? S = none) (hw0 : ∀ b ∈ wr, g0.get? b = none) (hu : A.in1.units < cLine)
    (hval : ∀ i v, P i v → ∃ p, ks[i]? = some p ∧ v = .ref p.1) :
    ∀ (k i : Nat) (s : Shared), n - i = k → i ≤ n → St i s → (∀ b o, g0.get? b = some o → s.heap.get? b = some o) → (∃ L es ep t, SetTR prog w s.heap S L es ep t ∧ Got ks i L) →
      (∀ s' L es ep t, Moved (S :: wr) G s s' → SetTR prog w s'.heap S L es ep t → Got ks n L → (∀ b o, g0.get? b = some o → s'.heap.get? b = some o) → R (.ok (.ret .none)) s') →
      codeAny (model prog w) A (.builtin "set.update.loop" ⟨[.ref S, .ref I], []⟩) R s := by
  have hSw : S ∉ wr := fun h => hSf (W.sub _ h)
  have hsub : ∀ b ∈ wr, b ∈ S :: wr := fun b hb => List.mem_cons_of_mem _ hb
  have old : ∀ {s s' : Shared}, Moved wr G s s' → (∀ b o, g0.get? b = some o → s.heap.get? b = some o) → ∀ b o, g0.get? b = some o → s'.heap.get? b = some o := fun hm q b o e => hm.heap b o (fun hb => by rw [hw0 b hb] at e; cases e) (q b o e)
  intro k
  induction k with
  | zero =>
    intro i s hk hi hst hq ⟨L, es, ep, t, hS, g⟩ hR
    have hin : i = n := by omega
    subst hin
    refine codeAny_builtin PyProof.Rows.F.entry_set_update_loop ?_
    rw [Around.under_plainId PyProof.Rows.F.plain_set_update_loop _]
    show wpAny _ A.in1 (pyNext (.ref I) >>= _) _ _ s
    refine wpAny_bind (W.done s _ _ hst fun s' hm => ?_)
    show wpAny _ A.in1 (ret Value.none) _ _ s'
    exact wpAny_pure (hR s' L es ep t (hm.mono hsub) (hS.keep (fun o ho => hm.heap S _ hSw ho) fun p hp => isT_keep (hk0 p (List.mem_of_mem_take (g.sub p hp))) (old hm hq)) g (old hm hq))
  | succ k ih =>
    intro i s hk hi hst hq ⟨L, es, ep, t, hS, g⟩ hR
    have hlt : i < n := by omega
    refine codeAny_builtin PyProof.Rows.F.entry_set_update_loop ?_
    rw [Around.under_plainId PyProof.Rows.F.plain_set_update_loop _]
    show wpAny _ A.in1 (pyNext (.ref I) >>= _) _ _ s
    refine wpAny_bind (W.item i s _ _ hlt hst fun v s' hP hst' hm => ?_)
    obtain ⟨p, hp, rfl⟩ := hval i v hP
    have hq' := old hm hq
    have hS' : SetTR prog w s'.heap S L es ep t := hS.keep (fun o ho => hm.heap S _ hSw ho) fun q hq2 => isT_keep (hk0 q (List.mem_of_mem_take (g.sub q hq2))) hq'
    have hx : IsT prog w s'.heap p.2 p.1 := isT_keep (hk0 p (List.mem_of_getElem? hp)) hq'
    have hLD : L.length ≤ D.length := by
      have h1 := len_sub (l := L.map (·.2)) (m := D) hS.nd fun z hz => by
        obtain ⟨q, hq2, rfl⟩ := List.mem_map.mp hz
        exact hin q (List.mem_of_mem_take (g.sub q hq2))
      rwa [List.length_map] at h1
    show wpAny _ A.in1 (holding [Value.ref p.1] (setAdd S (.ref p.1)) >>= _) _ _ s'
    refine wpAny_bind (wpAny_holding ?_)
    unfold setAdd
    refine wpAny_holding ?_
    refine wpAny_bind (wpAny_pyHash_tuple hu hx ?_)
    refine add_at (s := { s' with toks := s'.toks + (p.2.length + 1) }) hS' hx hu (by omega) fun b h' L' es' ep' t' hsb hS2 same more => ?_
    have g' : Got ks (i + 1) L' := by
      by_cases c : p.2 ∈ L.map (·.2)
      · rw [same c]; exact g.same hp c
      · exact g.more hp (more c)
    refine wpAny_pure ⟨plainId_quiet PyProof.Rows.F.plain_set_update_loop _, ih (i + 1) _ (by omega) hlt (W.frame _ s' _ _ hst' (Nat.le_add_right _ _) fun b hb o e => ?_) (fun b o e => (hsb.2 b (fun z => by rw [z, hS0] at e; cases e)).trans (hq' b o e)) ⟨L', es', ep', t', hS2, g'⟩ fun s'' L2 es2 ep2 t2 hm'' hS'' g'' hq'' => ?_⟩
    · rw [hsb.2 b (fun h : b = S => hSf (by rw [← h]; exact hb))]; exact e
    · refine hR s'' L2 es2 ep2 t2 (Moved.trans W.gtrans ((hm.mono hsub).then_heap (Nat.le_add_right _ _) fun b o hb e => ?_) hm'') hS'' g'' hq''
      rw [hsb.2 b (fun h : b = S => hb (by rw [h]; exact List.mem_cons_self))]; exact e
end
section
variable {prog : Program} {w : World} {A : Around} {E : Value → Shared → Prop} {s : Shared}
theorem call_set_pairs {l : Addr} {items : Array Value} (ks : List (Addr × List Int)) (D : List (List Int)) {Q : Value → Shared → Prop}
    (hh : A.handled = none) (hl : s.heap.IsList l items) (hi : items.toList = ks.map fun p => Value.ref p.1) (hk : ∀ p ∈ ks, IsT prog w s.heap p.2 p.1) (hD : D.length + 1 < 64) (hin : ∀ p ∈ ks, p.2 ∈ D) (hu : A.units + 3 < cLine)
    (h : ∀ (h' : Heap) (tk : Nat) L es ep t, SetTR prog w h' s.heap.objs.size L es ep t → Got ks ks.length L →
      (∀ b o, s.heap.get? b = some o → h'.get? b = some o) → Q (.ref s.heap.objs.size) { s with heap := h', toks := tk }) :
    wpAny (model prog w) A (call (.type "set") [.ref l]) Q E s := by
  obtain ⟨c, tl, hmro⟩ := PySem.F.called_set.mro
  have hmade := PySem.F.called_set.made
  have hsub := PySem.F.called_set.sub
  refine wpAny_call (codeAny_of_tree ?_)
  show wpAny _ _ (callAny (.type "set") _) _ _ _
  refine wpAny_pure ⟨Code.quiet_builtin _ (by decide +kernel), codeAny_builtin PySem.F.entry_type_call ?_⟩
  rw [Around.under_plain (weight_type_call_type "set" [.ref l] []) rfl]
  have h1 := PySem.F.called_set.notType
  have h2 := PySem.F.called_set.canCreate
  have hct := PySem.F.typeCall_set_1 (.ref l)
  repeat (any_goals (first | assumption | wp_step))
  refine codeAny_mono (code_set_led1 (.ref l) (E := E) (Q₁ := fun obj s₁ => obj = .ref s.heap.objs.size ∧ s₁ = { s with heap := s.heap.push { cls := .type "set", dict := none, data := .set #[] 0 (.fresh 0 0 (!w.params.followText "set-order")) } }) ⟨rfl, rfl⟩) fun r s₁ hr => ?_
  cases r with
  | error e => exact hr
  | ok fl =>
    cases fl with
    | ret obj =>
      obtain ⟨rfl, rfl⟩ := hr
      have hSF : SetTR prog w _ s.heap.objs.size [] _ _ _ := setTR_fresh (h := s.heap.push { cls := .type "set", dict := none, data := .set #[] 0 (.fresh 0 0 (!w.params.followText "set-order")) }) (Heap.get?_push_size _ rfl)
      generalize hled : (!w.params.followText "set-order") = led at hSF ⊢
      have hS : (s.heap.push { cls := .type "set", dict := none, data := .set #[] 0 (.fresh 0 0 led) }).get? s.heap.objs.size = some { cls := .type "set", dict := none, data := .set #[] 0 (.fresh 0 0 led) } := Heap.get?_push_size _ rfl
      have hT : Shared.TypeIs { s with heap := s.heap.push { cls := .type "set", dict := none, data := .set #[] 0 (.fresh 0 0 led) } } (.ref s.heap.objs.size) "set" := ⟨_, hS, rfl⟩
      have hli := PySem.F.called_set.init.lookup
      have hbi := PySem.F.called_set.init.bind (.ref s.heap.objs.size)
      repeat (any_goals (first | assumption | wp_step))
      refine codeAny_mono (codeAny_call_builtin (R := wants (fun r s₂ => r = .none ∧ ∃ h' tk L es ep t, s₂ = { s with heap := h', toks := tk } ∧
          SetTR prog w h' s.heap.objs.size L es ep t ∧ Got ks ks.length L ∧
          (∀ b o, s.heap.get? b = some o → h'.get? b = some o)) E) PySem.F.called_set.init.plain PySem.F.entry_set_init (check_set_init_1 hT ?_)) fun r₂ s₂ hr₂ => ?_
      · obtain ⟨ol, hol, hcl, nl, hdl⟩ := hl
        obtain ⟨ocls, odict, odata, oslots⟩ := ol
        simp only at hcl hdl
        subst hcl; subst hdl
        have hol' : (s.heap.push { cls := .type "set", dict := none, data := .set #[] 0 (.fresh 0 0 led) }).get? l = some { cls := .type "list", dict := odict, data := .seq items nl, slots := oslots } := Heap.get?_push_of_some _ hol
        have hsls := PySem.F.sub_list_set
        have hslf := PySem.F.sub_list_frozenset
        have hne : (Value.type "list" == Value.type "dict") = false := by decide
        have hl1 : (s.heap.push { cls := .type "set", dict := none, data := .set #[] 0 (.fresh 0 0 led) }).IsList l items := ⟨_, hol', rfl, nl, rfl⟩
        unfold Builtin.«set.__init__» noKeywords Builtin.Frozenset.updateFrom
        generalize hPI : pyIter = PI
        wp_walk
        subst hPI
        refine wpAny_pyIter_list hl1 ?_
        refine wpAny_bind (wpAny_runValue ?_)
        have hlS : l < s.heap.objs.size := Heap.lt_size hol
        have hh3 : A.in1.in1.in1.handled = none := by simp [hh]
        have hneI : l ≠ (s.heap.push { cls := .type "set", dict := none, data := .set #[] 0 (.fresh 0 0 led) }).objs.size := by
          rw [Heap.size_push]; exact Nat.ne_of_lt (Nat.lt_succ_of_lt hlS)
        have hSf : s.heap.objs.size ∉ [(s.heap.push { cls := .type "set", dict := none, data := .set #[] 0 (.fresh 0 0 led) }).objs.size, l] := by
          rw [Heap.size_push]; simp only [List.mem_cons, List.not_mem_nil, or_false, not_or]
          exact ⟨Nat.ne_of_lt (Nat.lt_succ_self _), Nat.ne_of_gt hlS⟩
        have hsz : ks.length = items.size := by
          have q := congrArg List.length hi
          rw [Array.length_toList, List.length_map] at q
          exact q.symm
        have hval : ∀ (i : Nat) (v : Value), items[i]? = some v → ∃ p, ks[i]? = some p ∧ v = .ref p.1 := fun i v hv => by
          rw [← Array.getElem?_toList, hi, List.getElem?_map] at hv
          obtain ⟨p, e1, e2⟩ := Option.map_eq_some_iff.mp hv
          exact ⟨p, e1, e2.symm⟩
        have gone : ∀ b, s.heap.objs.size ≤ b → s.heap.get? b = none := fun b hb => Heap.get?_none_of_le hb
        refine loop_pairs ((Walks.list hh3 _ l hneI items).toS) s.heap.objs.size
          hSf ks D hD hin hsz s.heap hk (gone _ (Nat.le_refl _)) (fun b hb => gone b (by rw [List.mem_singleton.mp hb, Heap.size_push]; exact Nat.le_succ _)) hu hval (items.size - 0) 0 _ (by omega) (Nat.zero_le _)
          ⟨⟨_, Heap.get?_push_size _ rfl, rfl, rfl⟩, (hl1.push _)⟩ (fun b o e => Heap.get?_push_of_some _ (Heap.get?_push_of_some _ e)) ?hS0 ?hR
        case hS0 =>
          exact ⟨[], _, _, _, hSF.keep (fun o ho => Heap.get?_push_of_some _ ho) (fun p hp => by cases hp), Got.zero ks⟩
        case hR =>
          intro s' L es ep t hm hS' g' hq
          obtain ⟨h', gg, d', tk', os'⟩ := s'
          have eg : gg = s.gens := hm.gens
          have ed : d' = s.drawn := hm.drawn
          have eo : os' = s.os := hm.os
          subst eg; subst ed; subst eo
          show wpAny _ _ _ _ _ _
          refine wpAny_pure ?_
          show wpAny _ _ (ret Value.none) _ _ _
          exact wpAny_pure ⟨rfl, h', tk', L, es, ep, t, rfl, hS', by rw [hsz]; exact g', hq⟩
      · cases r₂ with
        | error e => exact hr₂
        | ok fl₂ =>
          cases fl₂ with
          | ret r =>
            obtain ⟨rfl, h', tk, L, es, ep, t, rfl, hS', g', hk'⟩ := hr₂
            repeat (any_goals (first | assumption | wp_step))
            exact h _ _ _ _ _ _ hS' g' hk'
          | _ => exact hr₂.elim
    | _ => exact hr.elim
theorem call_set_pairsT {l : Addr} {items : Array Value} (ks : List (Addr × List Int)) (D : List (List Int)) {Q : Value → Shared → Prop}
    (hh : A.handled = none) (hl : s.heap.IsTuple l items) (hi : items.toList = ks.map fun p => Value.ref p.1) (hk : ∀ p ∈ ks, IsT prog w s.heap p.2 p.1) (hD : D.length + 1 < 64) (hin : ∀ p ∈ ks, p.2 ∈ D) (hu : A.units + 3 < cLine)
    (h : ∀ (h' : Heap) (tk : Nat) L es ep t, SetTR prog w h' s.heap.objs.size L es ep t → Got ks ks.length L →
      (∀ b o, s.heap.get? b = some o → h'.get? b = some o) → Q (.ref s.heap.objs.size) { s with heap := h', toks := tk }) :
    wpAny (model prog w) A (call (.type "set") [.ref l]) Q E s := by
  obtain ⟨c, tl, hmro⟩ := PySem.F.called_set.mro
  have hmade := PySem.F.called_set.made
  have hsub := PySem.F.called_set.sub
  refine wpAny_call (codeAny_of_tree ?_)
  show wpAny _ _ (callAny (.type "set") _) _ _ _
  refine wpAny_pure ⟨Code.quiet_builtin _ (by decide +kernel), codeAny_builtin PySem.F.entry_type_call ?_⟩
  rw [Around.under_plain (weight_type_call_type "set" [.ref l] []) rfl]
  have h1 := PySem.F.called_set.notType
  have h2 := PySem.F.called_set.canCreate
  have hct := PySem.F.typeCall_set_1 (.ref l)
  repeat (any_goals (first | assumption | wp_step))
  refine codeAny_mono (code_set_led1 (.ref l) (E := E) (Q₁ := fun obj s₁ => obj = .ref s.heap.objs.size ∧ s₁ = { s with heap := s.heap.push { cls := .type "set", dict := none, data := .set #[] 0 (.fresh 0 0 (!w.params.followText "set-order")) } }) ⟨rfl, rfl⟩) fun r s₁ hr => ?_
  cases r with
  | error e => exact hr
  | ok fl =>
    cases fl with
    | ret obj =>
      obtain ⟨rfl, rfl⟩ := hr
      have hSF : SetTR prog w _ s.heap.objs.size [] _ _ _ := setTR_fresh (h := s.heap.push { cls := .type "set", dict := none, data := .set #[] 0 (.fresh 0 0 (!w.params.followText "set-order")) }) (Heap.get?_push_size _ rfl)
      generalize hled : (!w.params.followText "set-order") = led at hSF ⊢
      have hS : (s.heap.push { cls := .type "set", dict := none, data := .set #[] 0 (.fresh 0 0 led) }).get? s.heap.objs.size = some { cls := .type "set", dict := none, data := .set #[] 0 (.fresh 0 0 led) } := Heap.get?_push_size _ rfl
      have hT : Shared.TypeIs { s with heap := s.heap.push { cls := .type "set", dict := none, data := .set #[] 0 (.fresh 0 0 led) } } (.ref s.heap.objs.size) "set" := ⟨_, hS, rfl⟩
      have hli := PySem.F.called_set.init.lookup
      have hbi := PySem.F.called_set.init.bind (.ref s.heap.objs.size)
      repeat (any_goals (first | assumption | wp_step))
      refine codeAny_mono (codeAny_call_builtin (R := wants (fun r s₂ => r = .none ∧ ∃ h' tk L es ep t, s₂ = { s with heap := h', toks := tk } ∧
          SetTR prog w h' s.heap.objs.size L es ep t ∧ Got ks ks.length L ∧
          (∀ b o, s.heap.get? b = some o → h'.get? b = some o)) E) PySem.F.called_set.init.plain PySem.F.entry_set_init (check_set_init_1 hT ?_)) fun r₂ s₂ hr₂ => ?_
      · obtain ⟨ol, hol, hcl, nl, hdl⟩ := hl
        obtain ⟨ocls, odict, odata, oslots⟩ := ol
        simp only at hcl hdl
        subst hcl; subst hdl
        have hol' : (s.heap.push { cls := .type "set", dict := none, data := .set #[] 0 (.fresh 0 0 led) }).get? l = some { cls := .type "tuple", dict := odict, data := .seq items nl, slots := oslots } := Heap.get?_push_of_some _ hol
        have hsls := PySem.F.sub_tuple_set
        have hslf := PySem.F.sub_tuple_frozenset
        have hne : (Value.type "tuple" == Value.type "dict") = false := by decide
        have hl1 : (s.heap.push { cls := .type "set", dict := none, data := .set #[] 0 (.fresh 0 0 led) }).IsTuple l items := ⟨_, hol', rfl, nl, rfl⟩
        unfold Builtin.«set.__init__» noKeywords Builtin.Frozenset.updateFrom
        generalize hPI : pyIter = PI
        wp_walk
        subst hPI
        refine wpAny_pyIter_tuple hl1 ?_
        refine wpAny_bind (wpAny_runValue ?_)
        have hlS : l < s.heap.objs.size := Heap.lt_size hol
        have hh3 : A.in1.in1.in1.handled = none := by simp [hh]
        have hneI : l ≠ (s.heap.push { cls := .type "set", dict := none, data := .set #[] 0 (.fresh 0 0 led) }).objs.size := by
          rw [Heap.size_push]; exact Nat.ne_of_lt (Nat.lt_succ_of_lt hlS)
        have hSf : s.heap.objs.size ∉ [(s.heap.push { cls := .type "set", dict := none, data := .set #[] 0 (.fresh 0 0 led) }).objs.size, l] := by
          rw [Heap.size_push]; simp only [List.mem_cons, List.not_mem_nil, or_false, not_or]
          exact ⟨Nat.ne_of_lt (Nat.lt_succ_self _), Nat.ne_of_gt hlS⟩
        have hsz : ks.length = items.size := by
          have q := congrArg List.length hi
          rw [Array.length_toList, List.length_map] at q
          exact q.symm
        have hval : ∀ (i : Nat) (v : Value), items[i]? = some v → ∃ p, ks[i]? = some p ∧ v = .ref p.1 := fun i v hv => by
          rw [← Array.getElem?_toList, hi, List.getElem?_map] at hv
          obtain ⟨p, e1, e2⟩ := Option.map_eq_some_iff.mp hv
          exact ⟨p, e1, e2.symm⟩
        have gone : ∀ b, s.heap.objs.size ≤ b → s.heap.get? b = none := fun b hb => Heap.get?_none_of_le hb
        refine loop_pairs ((Walks.tuple hh3 _ l hneI items).toS) s.heap.objs.size
          hSf ks D hD hin hsz s.heap hk (gone _ (Nat.le_refl _)) (fun b hb => gone b (by rw [List.mem_singleton.mp hb, Heap.size_push]; exact Nat.le_succ _)) hu hval (items.size - 0) 0 _ (by omega) (Nat.zero_le _)
          ⟨⟨_, Heap.get?_push_size _ rfl, rfl, rfl⟩, (hl1.push _)⟩ (fun b o e => Heap.get?_push_of_some _ (Heap.get?_push_of_some _ e)) ?hS0 ?hR
        case hS0 =>
          exact ⟨[], _, _, _, hSF.keep (fun o ho => Heap.get?_push_of_some _ ho) (fun p hp => by cases hp), Got.zero ks⟩
        case hR =>
          intro s' L es ep t hm hS' g' hq
          obtain ⟨h', gg, d', tk', os'⟩ := s'
          have eg : gg = s.gens := hm.gens
          have ed : d' = s.drawn := hm.drawn
          have eo : os' = s.os := hm.os
          subst eg; subst ed; subst eo
          show wpAny _ _ _ _ _ _
          refine wpAny_pure ?_
          show wpAny _ _ (ret Value.none) _ _ _
          exact wpAny_pure ⟨rfl, h', tk', L, es, ep, t, rfl, hS', by rw [hsz]; exact g', hq⟩
      · cases r₂ with
        | error e => exact hr₂
        | ok fl₂ =>
          cases fl₂ with
          | ret r =>
            obtain ⟨rfl, h', tk, L, es, ep, t, rfl, hS', g', hk'⟩ := hr₂
            repeat (any_goals (first | assumption | wp_step))
            exact h _ _ _ _ _ _ hS' g' hk'
          | _ => exact hr₂.elim
    | _ => exact hr.elim
end
section
variable {X : Cx}
def rSetOfP (K : PySem.W.Frag) (P : Program) (w : World) : List V → Hp → VK → Prop := fun xs H Q => ∃ (l : Addr) (ks : List (Addr × List Int)) (D : List (List Int)), xs = [V.ref l] ∧ (SqL K H l (ks.map fun p => V.ref p.1) ∨ SqT K H l (ks.map fun p => V.ref p.1)) ∧ (∀ p ∈ ks, SqT K H p.1 (p.2.map V.int)) ∧ D.length + 1 < 64 ∧ (∀ p ∈ ks, p.2 ∈ D) ∧
  ∀ a L, H a = none → (∀ p ∈ L, p ∈ ks) → (∀ p ∈ ks, p.2 ∈ L.map (·.2)) → Q (.ref a) (upd H a (SetTO P w a L))
theorem cr_setOfP (hc : X.calm = true) (hu : X.A.units + 65 < cLine) : CallR X (.type "set") (rSetOfP X.K X.prog X.w) := by
  intro pins s σ H xs us Q I r h
  obtain ⟨l, ks, D, rfl, hl, hk, hD, hin, q⟩ := h
  have fresh := I.hok.fresh (Nat.le_refl s.heap.objs.size)
  rw [Vals.ref1 r]
  rcases hl with hl | hl
  · obtain ⟨its, rv, pl, hz⟩ := I.list hl
    refine call_set_pairs (prog := X.prog) (w := X.w) ks D (I.ok.hd hc) pl.isList (by simpa using refs_of_vals rv) (fun p hp => I.isT (hk p hp)) hD hin (by omega) fun h' tk L es ep t R g k => ?_
    exact ⟨.ref s.heap.objs.size, upd H s.heap.objs.size (SetTO X.prog X.w s.heap.objs.size L), I.laid (t' := tk) k (Nat.le_refl _) (setTO_new R.t0), rfl, q _ L fresh (fun p hp => List.mem_of_mem_take (g.sub p hp)) fun p hp => g.all p (by rw [List.take_length]; exact hp)⟩
  · obtain ⟨its, rv, pl, hz⟩ := I.tuple hl
    refine call_set_pairsT (prog := X.prog) (w := X.w) ks D (I.ok.hd hc) pl (by simpa using refs_of_vals rv) (fun p hp => I.isT (hk p hp)) hD hin (by omega) fun h' tk L es ep t R g k => ?_
    exact ⟨.ref s.heap.objs.size, upd H s.heap.objs.size (SetTO X.prog X.w s.heap.objs.size L), I.laid (t' := tk) k (Nat.le_refl _) (setTO_new R.t0), rfl, q _ L fresh (fun p hp => List.mem_of_mem_take (g.sub p hp)) fun p hp => g.all p (by rw [List.take_length]; exact hp)⟩
theorem cr_setOfPK (K : PySem.W.Frag) (P : Program) (w : World) (hc : X.calm = true) (hu : X.A.units + 65 < cLine) (h : X.K = K := by rfl) (h2 : X.prog = P := by rfl) (h3 : X.w = w := by rfl) : CallR X (.type "set") (rSetOfP K P w) := by
  subst h h2 h3
  exact cr_setOfP hc hu
end
end DL

/-! Sets of numbers, some of them twice: set(xs), sorted(set(xs)); sorted(set(pairs)) of few unlike ones. -/
namespace DL
open PySem L2 RZ PyProof.Rows PySem.Spec
open Sem (wp)
/-- the set at a holds just the numbers of L -/
def SetI (w : World) (h : Heap) (a : Addr) (L : List Int) : Prop := ∃ S n, SetR w h a S n ∧ (∀ k, S k = true ↔ k ∈ L) ∧ n ≤ L.length
section
variable {w : World} {h h' : Heap} {a : Addr} {L : List Int}
theorem SetI.at (R : SetI w h a L) (k : ∀ o, h.get? a = some o → h'.get? a = some o) : SetI w h' a L := let ⟨S, n, r, x⟩ := R; ⟨S, n, r.at k, x⟩
theorem SetI.congr {L' : List Int} (R : SetI w h a L) (e : ∀ k, k ∈ L' ↔ k ∈ L) (hl : L.length ≤ L'.length) : SetI w h a L' := let ⟨S, n, r, x, y⟩ := R; ⟨S, n, r, fun k => (x k).trans (e k).symm, Nat.le_trans y hl⟩
theorem setI_fresh (h : Heap) (w : World) : SetI w (h.push { cls := .type "set", dict := none, data := .set #[] 0 (.fresh 0 0 (!w.params.followText "set-order")) }) h.objs.size [] := ⟨_, _, setR_fresh w, fun k => by simp, Nat.le_refl _⟩
theorem setI_add {P : Program} {A : Around} {E : Value → Shared → Prop} {s : Shared} {k : Int} {tk : Tok} {Q : Bool → Shared → Prop} (R : SetI w s.heap a L) (room : L.length + 1 < scanBound)
    (h : ∀ b h', Heap.SameBut a s.heap h' → SetI w h' a (k :: L) → Q b { s with heap := h' }) : wpAny (model P w) A (setAddHashed a (.int k tk) (hashInt k)) Q E s := by
  obtain ⟨S, n, r, x, y⟩ := R
  refine setR_add_hashed r (by omega) fun h' hsb new => h _ h' hsb ⟨_, _, new, fun j => ?_, ?_⟩
  · rw [Bool.or_eq_true, x j, decide_eq_true_eq, List.mem_cons]
    exact Or.comm
  · rw [List.length_cons]
    split <;> omega
end
theorem intsA_len : ∀ {vs : List Value} {ns : List Int}, PyProof.Rows.IntsAre vs ns → vs.length = ns.length
  | _, _, .nil => rfl
  | _, _, .cons _ _ t => congrArg (· + 1) (intsA_len t)
theorem ints_atI : ∀ {vs : List Value} {ns : List Int}, PyProof.Rows.IntsAre vs ns → ∀ (i : Nat) (v : Value), vs[i]? = some v → ∃ t, v = .int (ns.getD i 0) t
  | _, _, .nil, i, v, h => by simp at h
  | _, _, .cons n t r, 0, v, h => by
    obtain rfl : Value.int n t = v := Option.some.inj (by simpa using h)
    exact ⟨t, rfl⟩
  | _, _, .cons n t r, i + 1, v, h => by
    obtain ⟨t', e⟩ := ints_atI r i v (by simpa using h)
    exact ⟨t', by rw [e]; simp [List.getD]⟩
section
variable {prog : Program} {w : World} {A : Around} {R : Result → Shared → Prop} {I : Addr} {fp wr : List Addr} {G : Array GenState → Array GenState → Prop} {n : Nat} {P : Nat → Value → Prop} {St : Nat → Shared → Prop}
theorem loop_ints (W : WalksS prog w A.in1 I fp wr G n P St) (S : Addr) (hSf : S ∉ fp) (xs : List Int) (hsz : xs.length = n) (hn1 : n < 1000)
    (hval : ∀ i v, P i v → ∃ t, v = .int (xs.getD i 0) t) :
    ∀ (k i : Nat) (s : Shared), n - i = k → i ≤ n → St i s → SetI w s.heap S (xs.take i) →
      (∀ s', Moved (S :: wr) G s s' → SetI w s'.heap S (xs.take n) → R (.ok (.ret .none)) s') →
      codeAny (model prog w) A (.builtin "set.update.loop" ⟨[.ref S, .ref I], []⟩) R s := by
  have hSw : S ∉ wr := fun h => hSf (W.sub _ h)
  have hsub : ∀ b ∈ wr, b ∈ S :: wr := fun b hb => List.mem_cons_of_mem _ hb
  intro k
  induction k with
  | zero =>
    intro i s hk hi hst hS hR
    have hin : i = n := by omega
    subst hin
    refine codeAny_builtin PyProof.Rows.F.entry_set_update_loop ?_
    rw [Around.under_plainId PyProof.Rows.F.plain_set_update_loop _]
    show wpAny _ A.in1 (pyNext (.ref I) >>= _) _ _ s
    refine wpAny_bind (W.done s _ _ hst fun s' hm => ?_)
    show wpAny _ A.in1 (ret Value.none) _ _ s'
    exact wpAny_pure (hR s' (hm.mono hsub) (hS.at fun o ho => hm.heap S _ hSw ho))
  | succ k ih =>
    intro i s hk hi hst hS hR
    have hlt : i < n := by omega
    refine codeAny_builtin PyProof.Rows.F.entry_set_update_loop ?_
    rw [Around.under_plainId PyProof.Rows.F.plain_set_update_loop _]
    show wpAny _ A.in1 (pyNext (.ref I) >>= _) _ _ s
    refine wpAny_bind (W.item i s _ _ hlt hst fun v s' hP hst' hm => ?_)
    obtain ⟨t, rfl⟩ := hval i v hP
    have hS' : SetI w s'.heap S (xs.take i) := hS.at fun o ho => hm.heap S _ hSw ho
    have hx : xs[i]? = some (xs.getD i 0) := by
      rw [List.getD_eq_getElem?_getD, List.getElem?_eq_getElem (by omega)]
      rfl
    show wpAny _ A.in1 (holding [Value.int (xs.getD i 0) t] (setAdd S (.int (xs.getD i 0) t)) >>= _) _ _ s'
    refine wpAny_bind (wpAny_holding ?_)
    unfold setAdd
    refine wpAny_holding ?_
    refine wpAny_bind ((intKind prog w).pyHash (k := xs.getD i 0) (intKind_is _ _ _ _) ?_)
    refine setI_add (P := prog) (s := { s' with toks := s'.toks + 1 }) hS' (by unfold scanBound; rw [List.length_take]; omega) fun b h' hsb hS2 => ?_
    have hSi : SetI w h' S (xs.take (i + 1)) := hS2.congr (fun k' => by
      rw [List.take_add_one, hx, List.mem_append, List.mem_cons]
      simp [or_comm]) (by rw [List.length_cons, List.length_take, List.length_take]; omega)
    refine wpAny_pure ⟨plainId_quiet PyProof.Rows.F.plain_set_update_loop _, ih (i + 1) _ (by omega) hlt (W.frame _ s' _ _ hst' (Nat.le_succ _) fun b hb o e => ?_) hSi fun s'' hm'' hS'' => ?_⟩
    · rw [hsb.2 b (fun h : b = S => hSf (by rw [← h]; exact hb))]; exact e
    · refine hR s'' (Moved.trans W.gtrans ((hm.mono hsub).then_heap (Nat.le_succ _) fun b o hb e => ?_) hm'') hS''
      rw [hsb.2 b (fun h : b = S => hb (by rw [h]; exact List.mem_cons_self))]; exact e
end
section
variable {prog : Program} {w : World} {A : Around} {E : Value → Shared → Prop} {s : Shared}
theorem call_set_ints {l : Addr} {items : Array Value} {xs : List Int} {Q : Value → Shared → Prop}
    (hh : A.handled = none) (hl : s.heap.IsList l items) (hi : PyProof.Rows.IntsAre items.toList xs) (hn1 : xs.length < 1000)
    (h : ∀ (h' : Heap) (tk : Nat), SetI w h' s.heap.objs.size xs →
      (∀ b o, b < s.heap.objs.size → s.heap.get? b = some o → h'.get? b = some o) → Q (.ref s.heap.objs.size) { s with heap := h', toks := tk }) :
    wpAny (model prog w) A (call (.type "set") [.ref l]) Q E s := by
  obtain ⟨c, tl, hmro⟩ := PySem.F.called_set.mro
  have hmade := PySem.F.called_set.made
  have hsub := PySem.F.called_set.sub
  refine wpAny_call (codeAny_of_tree ?_)
  show wpAny _ _ (callAny (.type "set") _) _ _ _
  refine wpAny_pure ⟨Code.quiet_builtin _ (by decide +kernel), codeAny_builtin PySem.F.entry_type_call ?_⟩
  rw [Around.under_plain (weight_type_call_type "set" [.ref l] []) rfl]
  have h1 := PySem.F.called_set.notType
  have h2 := PySem.F.called_set.canCreate
  have hct := PySem.F.typeCall_set_1 (.ref l)
  repeat (any_goals (first | assumption | wp_step))
  refine codeAny_mono (code_set_led1 (.ref l) (E := E) (Q₁ := fun obj s₁ => obj = .ref s.heap.objs.size ∧ s₁ = { s with heap := s.heap.push { cls := .type "set", dict := none, data := .set #[] 0 (.fresh 0 0 (!w.params.followText "set-order")) } }) ⟨rfl, rfl⟩) fun r s₁ hr => ?_
  cases r with
  | error e => exact hr
  | ok fl =>
    cases fl with
    | ret obj =>
      obtain ⟨rfl, rfl⟩ := hr
      have hSF := setI_fresh s.heap w
      generalize hled : (!w.params.followText "set-order") = led at hSF ⊢
      have hS : (s.heap.push { cls := .type "set", dict := none, data := .set #[] 0 (.fresh 0 0 led) }).get? s.heap.objs.size = some { cls := .type "set", dict := none, data := .set #[] 0 (.fresh 0 0 led) } := Heap.get?_push_size _ rfl
      have hT : Shared.TypeIs { s with heap := s.heap.push { cls := .type "set", dict := none, data := .set #[] 0 (.fresh 0 0 led) } } (.ref s.heap.objs.size) "set" := ⟨_, hS, rfl⟩
      have hli := PySem.F.called_set.init.lookup
      have hbi := PySem.F.called_set.init.bind (.ref s.heap.objs.size)
      repeat (any_goals (first | assumption | wp_step))
      refine codeAny_mono (codeAny_call_builtin (R := wants (fun r s₂ => r = .none ∧ ∃ h' tk, s₂ = { s with heap := h', toks := tk } ∧
          SetI w h' s.heap.objs.size xs ∧
          (∀ b o, b < s.heap.objs.size → s.heap.get? b = some o → h'.get? b = some o)) E) PySem.F.called_set.init.plain PySem.F.entry_set_init (check_set_init_1 hT ?_)) fun r₂ s₂ hr₂ => ?_
      · obtain ⟨ol, hol, hcl, nl, hdl⟩ := hl
        obtain ⟨ocls, odict, odata, oslots⟩ := ol
        simp only at hcl hdl
        subst hcl; subst hdl
        have hol' : (s.heap.push { cls := .type "set", dict := none, data := .set #[] 0 (.fresh 0 0 led) }).get? l = some { cls := .type "list", dict := odict, data := .seq items nl, slots := oslots } := Heap.get?_push_of_some _ hol
        have hsls := PySem.F.sub_list_set
        have hslf := PySem.F.sub_list_frozenset
        have hne : (Value.type "list" == Value.type "dict") = false := by decide
        have hl1 : (s.heap.push { cls := .type "set", dict := none, data := .set #[] 0 (.fresh 0 0 led) }).IsList l items := ⟨_, hol', rfl, nl, rfl⟩
        unfold Builtin.«set.__init__» noKeywords Builtin.Frozenset.updateFrom
        generalize hPI : pyIter = PI
        wp_walk
        subst hPI
        refine wpAny_pyIter_list hl1 ?_
        refine wpAny_bind (wpAny_runValue ?_)
        have hlS : l < s.heap.objs.size := Heap.lt_size hol
        have hh3 : A.in1.in1.in1.handled = none := by simp [hh]
        have hneI : l ≠ (s.heap.push { cls := .type "set", dict := none, data := .set #[] 0 (.fresh 0 0 led) }).objs.size := by
          rw [Heap.size_push]; exact Nat.ne_of_lt (Nat.lt_succ_of_lt hlS)
        have hSf : s.heap.objs.size ∉ [(s.heap.push { cls := .type "set", dict := none, data := .set #[] 0 (.fresh 0 0 led) }).objs.size, l] := by
          rw [Heap.size_push]; simp only [List.mem_cons, List.not_mem_nil, or_false, not_or]
          exact ⟨Nat.ne_of_lt (Nat.lt_succ_self _), Nat.ne_of_gt hlS⟩
        have hsz : xs.length = items.size := by rw [← intsA_len hi, Array.length_toList]
        have hval : ∀ (i : Nat) (v : Value), items[i]? = some v → ∃ t, v = .int (xs.getD i 0) t := fun i v hv => ints_atI hi i v (by rw [Array.getElem?_toList]; exact hv)
        refine loop_ints ((Walks.list hh3 _ l hneI items).toS) s.heap.objs.size
          hSf xs hsz (by rw [← hsz]; exact hn1) hval (items.size - 0) 0 _ (by omega) (Nat.zero_le _)
          ⟨⟨_, Heap.get?_push_size _ rfl, rfl, rfl⟩, (hl1.push _)⟩ ?hS0 ?hR
        case hS0 =>
          exact hSF.at fun o ho => Heap.get?_push_of_some _ ho
        case hR =>
          intro s' hm hS'
          obtain ⟨h', g', d', tk', os'⟩ := s'
          have eg : g' = s.gens := hm.gens
          have ed : d' = s.drawn := hm.drawn
          have eo : os' = s.os := hm.os
          subst eg; subst ed; subst eo
          show wpAny _ _ _ _ _ _
          refine wpAny_pure ?_
          show wpAny _ _ (ret Value.none) _ _ _
          refine wpAny_pure ⟨rfl, h', tk', rfl, (by rw [← hsz, List.take_length] at hS'; exact hS'), fun b o hb e => ?_⟩
          have hb1 : b ≠ s.heap.objs.size := Nat.ne_of_lt hb
          have hb2 : b ≠ (s.heap.push { cls := .type "set", dict := none, data := .set #[] 0 (.fresh 0 0 led) }).objs.size := by
            rw [Heap.size_push]; exact Nat.ne_of_lt (Nat.lt_succ_of_lt hb)
          exact hm.heap b o (by simp only [List.mem_cons, List.not_mem_nil, or_false, not_or]; exact ⟨hb1, hb2⟩) (Heap.get?_push_of_some _ (Heap.get?_push_of_some _ e))
      · cases r₂ with
        | error e => exact hr₂
        | ok fl₂ =>
          cases fl₂ with
          | ret r =>
            obtain ⟨rfl, h', tk, rfl, hS', hk'⟩ := hr₂
            repeat (any_goals (first | assumption | wp_step))
            exact h _ _ hS' hk'
          | _ => exact hr₂.elim
    | _ => exact hr.elim
end
section
variable {X : Cx}
def rSetOfI (K : PySem.W.Frag) (w : World) : List V → Hp → VK → Prop := fun xs H Q => ∃ (l : Addr) (ns : List Int), xs = [V.ref l] ∧ SqL K H l (ns.map V.int) ∧ ns.length < 64 ∧ ∀ a S n, H a = none → (∀ k, S k = true ↔ k ∈ ns) → n < 64 → Q (.ref a) (upd H a (SetO w a S n))
theorem cr_setOfI (hc : X.calm = true) : CallR X (.type "set") (rSetOfI X.K X.w) := by
  intro pins s σ H xs us Q I r h
  obtain ⟨l, ns, rfl, hl, hf, q⟩ := h
  obtain ⟨its, rv, pl, hz⟩ := I.list hl
  have fresh := I.hok.fresh (Nat.le_refl s.heap.objs.size)
  rw [Vals.ref1 r]
  refine call_set_ints (prog := X.prog) (w := X.w) (I.ok.hd hc) pl.isList (by simpa using intsAre_of rv) (by omega) fun h' tk R k => ?_
  obtain ⟨S, n, r', x, y⟩ := R
  exact ⟨.ref s.heap.objs.size, upd H s.heap.objs.size (SetO X.w s.heap.objs.size S n), I.laid (t' := tk) (fun b o e => k b o (Heap.lt_size e) e) (Nat.le_refl _) (setO_new r'), rfl, q _ S n fresh x (by omega)⟩
theorem cr_setOfIK (K : PySem.W.Frag) (w : World) (hc : X.calm = true) (h : X.K = K := by rfl) (h3 : X.w = w := by rfl) : CallR X (.type "set") (rSetOfI K w) := by
  subst h h3
  exact cr_setOfI hc
theorem cr_sortedIK (w : World) (hc : X.calm = true) (h3 : X.w = w := by rfl) : CallR X (.builtin "sorted") (rSortedSet w) := by
  subst h3
  exact cr_sortedSet hc
end
section
variable {K : PySem.W.Frag} {P : Program} {w : World} {A : Amb} {S : List SV} {k : KA} {te to ta : TE}
/-- sorted(set(xs)), xs numbers: rising, each once, as data -/
theorem wp_sortSetI (h : Wp K A te S fun A1 s => ∃ L : List Int, s = .dat (.list (L.map .int)) ∧ L.length < 64 ∧ ∀ ns : List Int, (∀ c, c ∈ ns ↔ c ∈ L) → ns.Pairwise (· < ·) → k A1 (.dat (.list (ns.map .int)))) :
    Wp K A (tCB (rSortedSet w) (tCons (tCB (rSetOfI K w) (tCons te tNil)) tNil)) S k := fun R F σ H Q a sd q => by
  refine h R F σ H _ a sd fun A1 s v F1 H1 ⟨L, hs, hl, hk⟩ e1 a1 r1 => ?_
  subst hs
  obtain ⟨l, xs, rfl, h1, h2⟩ := sr_lst r1
  obtain rfl := dt_ints h2
  refine ⟨l, L, rfl, .inl (.inl (a1.same _ _ h1)), hl, fun st St n hst hS hn => ?_⟩
  obtain ⟨a2, e2⟩ := a1.alloc (o := SetO w st St n) hst
  refine ⟨st, St, n, rfl, upd_same, hn, fun ns p hpw hm _ hp => ?_⟩
  obtain ⟨a3, e3⟩ := a2.alloc (o := .lst (ns.map V.int)) hp
  exact q A1 _ _ _ _ (hk ns (fun c => (hm c).trans (hS c)) hpw) ((e1.trans e2).trans e3) a3 (.lst upd_same (ints_dt _ ns))
/-- sorted(set(xs)), xs pairs of small numbers: rising, as data -/
theorem wp_sortSetP (h : Wp K A te S fun A1 s => ∃ cs : List (Int × Int), (s = .dat (.list (cs.map pairD)) ∨ s = .dat (.tuple (cs.map pairD))) ∧ (∃ D : List (Int × Int), D.length + 1 < 64 ∧ ∀ c ∈ cs, c ∈ D) ∧ (∀ c ∈ cs, (0 ≤ c.1 ∧ c.1 < 64) ∧ 0 ≤ c.2 ∧ c.2 < 64) ∧ ∀ ms : List (Int × Int), (∀ c, c ∈ ms ↔ c ∈ cs) → ms.Pairwise (fun a b => ltP a b = true) → k A1 (.dat (.list (ms.map pairD)))) :
    Wp K A (tCB (rSortedT K P w) (tCons (tCB (rSetOfP K P w) (tCons te tNil)) tNil)) S k := fun R F σ H Q a sd q => by
  refine h R F σ H _ a sd fun A1 s v F1 H1 ⟨cs, hs, ⟨D, hl, hD⟩, hb, hk⟩ e1 a1 r1 => ?_
  obtain ⟨l, xs, rfl, h1, h2⟩ : ∃ l xs, v = .ref l ∧ (SqL K H1 l xs ∨ SqT K H1 l xs) ∧ DtAll K F1 xs (cs.map pairD) := by
    rcases hs with hs | hs
    · subst hs
      obtain ⟨l, xs, e, h1, h2⟩ := sr_lst r1
      exact ⟨l, xs, e, .inl (.inl (.inl (a1.same _ _ h1))), h2⟩
    · subst hs
      obtain ⟨l, xs, e, h1, h2⟩ := sr_tup r1
      exact ⟨l, xs, e, .inr (same_t a1.same h1), h2⟩
  obtain ⟨ks, rfl, ek, hks⟩ := pairs_at h2
  have hof : ∀ p ∈ ks, ∃ c ∈ cs, p.2 = [c.1, c.2] := fun p hp => by
    have : p.2 ∈ ks.map (·.2) := List.mem_map.mpr ⟨p, hp, rfl⟩
    rw [ek] at this
    obtain ⟨c, hc, e⟩ := List.mem_map.mp this
    exact ⟨c, hc, e.symm⟩
  refine ⟨l, ks, D.map fun c => [c.1, c.2], rfl, h1, fun p hp => same_t a1.same (hks p hp), by rw [List.length_map]; exact hl, fun p hp => by
    obtain ⟨c, hc, e⟩ := hof p hp
    exact List.mem_map.mpr ⟨c, hD c hc, e.symm⟩, fun st L hst hL1 hL2 => ?_⟩
  obtain ⟨a2, e2⟩ := a1.alloc (o := SetTO P w st L) hst
  refine ⟨st, L, 2, 64, rfl, upd_same, fun p hp => same_t (a2.same) (same_t e2 (hks p (hL1 p hp))), by decide, fun p hp => ?_, fun L' p hpm hnd hlt hpw hp => ?_⟩
  · obtain ⟨c, hc, e⟩ := hof p (hL1 p hp)
    obtain ⟨⟨b1, b2⟩, b3, b4⟩ := hb c hc
    rw [e]
    refine ⟨rfl, ?_⟩
    intro n hn
    simp only [List.mem_cons, List.not_mem_nil, or_false] at hn
    rcases hn with rfl | rfl
    · exact ⟨b1, b2⟩
    · exact ⟨b3, b4⟩
  have hof' : ∀ p ∈ L', ∃ c ∈ cs, p.2 = [c.1, c.2] := fun p hp => hof p (hL1 p (hpm.mem_iff.mp hp))
  let toP : Addr × List Int → Int × Int := fun p => (p.2.getD 0 0, p.2.getD 1 0)
  have hto : ∀ p ∈ L', p.2 = [(toP p).1, (toP p).2] ∧ toP p ∈ cs := fun p hp => by
    obtain ⟨c, hc, e⟩ := hof' p hp
    have : toP p = c := by show (p.2.getD 0 0, p.2.getD 1 0) = c; rw [e]; rfl
    rw [this]
    exact ⟨e, hc⟩
  have em : L'.map (·.2) = (L'.map toP).map fun c => [c.1, c.2] := by
    rw [List.map_map]
    exact List.map_congr_left fun p hp => (hto p hp).1
  have hd : DtAll K (upd F1 st (SetTO P w st L)) (L'.map fun q => V.ref q.1) ((L'.map toP).map pairD) := pairs_dtF (fun p hp => same_t e2 (hks p (hL1 p (hpm.mem_iff.mp hp)))) em
  obtain ⟨a3, e3⟩ := a2.alloc (o := .lst (L'.map fun q => V.ref q.1)) hp
  refine q A1 _ _ _ _ (hk (L'.map toP) (fun c => ⟨fun hc => ?_, fun hc => ?_⟩) ?_) ((e1.trans e2).trans e3) a3 (.lst upd_same (hd.mono e3))
  · obtain ⟨p, hp, rfl⟩ := List.mem_map.mp hc
    exact (hto p hp).2
  · have h3 : [c.1, c.2] ∈ ks.map (·.2) := by
      rw [ek]
      exact List.mem_map.mpr ⟨c, hc, rfl⟩
    obtain ⟨p, hp, e⟩ := List.mem_map.mp h3
    have h4 := hL2 p hp
    rw [e] at h4
    obtain ⟨p', hp', e'⟩ := List.mem_map.mp h4
    refine List.mem_map.mpr ⟨p', hpm.mem_iff.mpr hp', ?_⟩
    show (p'.2.getD 0 0, p'.2.getD 1 0) = c
    rw [e']
    rfl
  · rw [em] at hnd
    have hnd2 : List.Pairwise (fun a b : Int × Int => a ≠ b) (L'.map toP) := by
      refine List.Pairwise.of_map (f := fun c : Int × Int => [c.1, c.2]) (fun x y hxy e => ?_) hnd
      exact hxy (by rw [e])
    rw [List.pairwise_map] at hnd2 ⊢
    refine (hnd2.and hpw).imp_of_mem fun {x y} hx hy hxy => ?_
    obtain ⟨n1, n2⟩ := hxy
    obtain ⟨ex, cx⟩ := hto x hx
    obtain ⟨ey, cy⟩ := hto y hy
    obtain ⟨b1, b2⟩ := hb _ cx
    obtain ⟨b3, b4⟩ := hb _ cy
    rw [ex, ey] at n2
    have := L2.pair_lt n2 (fun e => n1 (by
      injection e with h1 h2
      injection h2 with h2
      exact Prod.ext h1 h2)) b1 b2 b3 b4
    unfold ltP
    rcases this with h | ⟨h, h'⟩
    · rw [if_neg (by omega)]; exact decide_eq_true h
    · rw [if_pos h]; exact decide_eq_true h'
end
end DL

/-! Comprehensions over a list D that is one's own and may still be written later. -/
namespace DL
open PySem L2
section
variable {K : PySem.W.Frag} {A A' : Amb} {S S' : List SV} {te tl : TE} {tt : TT} {s : SV} {g : TG} {vs : List Nat} {k : KA} {α : Type}
theorem wp_lcOP (to : TOnly g vs) (h : Wp K A tl S fun A1 s0 => ∃ a xs, s0 = .ptr a ∧ ∃ J : Nat → KS, J 0 A1 [] ∧ (∀ i A2 acc, J i A2 acc → (a, .lst xs) ∈ A2.cells) ∧ (∀ i s, xs[i]? = some s → LcStep K g tt te S vs (J i) (J (i + 1)) s) ∧
    ∀ A2 acc, J xs.length A2 acc → ∀ p, k (A2.add p (.lst acc)) (.ptr p)) : Wp K A (tLc (iList K tl) g tt te vs) S k := fun R F σ H Q a sd q => by
  refine h R F σ H _ a sd fun A1 s0 v0 F1 H1 ⟨b, xs, hs0, Jd, j0, jc, js, je⟩ e1 a1 r1 => ?_
  subst hs0
  have hv : v0 = .ref b := r1
  subst hv
  obtain ⟨us0, f0, r0⟩ := a1.cell (jc 0 A1 [] j0)
  refine ⟨b, rfl, ⟨us0, .inl (.inl f0)⟩, fun p hp => ?_⟩
  refine ⟨fun i m H' => m = xs.length - i ∧ i ≤ xs.length ∧ ∃ A2 acc F2, Jd i A2 acc ∧ Same F1 F2 ∧ AtR K A2 ((p, .lst acc) :: R) F2 H', ⟨_, rfl, Nat.zero_le _, A1, [], F1, j0, Same.refl F1, (a1.new (o := .lst []) (c := .lst []) hp ⟨[], upd_same, .nil⟩).back⟩, ?_⟩
  rintro i m H2 ⟨rfl, hi, A2, acc, F2, hj, e2, a2⟩
  obtain ⟨us, f2, r2⟩ := a2.cell (jc i A2 acc hj)
  have hH : SqL K H2 b us := .inl (.inl f2)
  by_cases hlt : i < xs.length
  · obtain ⟨x, hx, rx⟩ := pget r2 (List.getElem?_eq_getElem hlt)
    refine .inr ⟨⟨us, x, hH, hx⟩, fun H' => ∃ A3 acc3 F3, Jd (i + 1) A3 acc3 ∧ Same F2 F3 ∧ AtR K A3 ((p, .lst acc3) :: R) F3 H', fun H' ⟨A3, acc3, F3, h3, e3, a3⟩ => ⟨xs.length - (i + 1), by omega, rfl, hlt, A3, acc3, F3, h3, e2.trans e3, a3⟩, fun x' H' y => ?_⟩
    obtain ⟨rfl, y⟩ := y
    have q' := y us hH
    rw [hx] at q'
    cases q'
    have g1 := js i _ (List.getElem?_eq_getElem hlt) A2 acc hj ((p, .lst acc) :: R) F2 (L2.wipe σ vs) H' x (fun σ2 H2 => tt σ2 H2 fun b H3 => if b = true then te σ2 H3 fun y H4 => ∃ acc, H4 p = some (.lst acc) ∧ acc.length < sizeLine ∧ ∃ A3 acc3 F3, Jd (i + 1) A3 acc3 ∧ Same F2 F3 ∧ AtR K A3 ((p, .lst acc3) :: R) F3 (upd H4 p (.lst (acc ++ [y]))) else ∃ A3 acc3 F3, Jd (i + 1) A3 acc3 ∧ Same F2 F3 ∧ AtR K A3 ((p, .lst acc3) :: R) F3 H3) a2 (((sd.mono e1).mono e2).wipe vs) rx ?_
    · have g2 := to x (L2.wipe σ vs) H' _ g1
      rw [wipe_idem] at g2
      exact g2
    intro A4 S4 F4 σ4 H4 h4 e4 a4 sd4
    refine h4 _ F4 σ4 H4 _ a4 sd4 fun A5 b F5 H5 h5 e5 a5 => ?_
    cases b with
    | true =>
      show te σ4 H5 _
      refine h5.1 rfl _ F5 σ4 H5 _ a5 (sd4.mono e5) fun A6 s6 v6 F6 H6 ⟨hl, h6⟩ e6 a6 r6 => ?_
      obtain ⟨_, _, us, f3, f4⟩ := At.cell a6 p (.lst acc) (List.mem_append_right _ List.mem_cons_self)
      refine ⟨us, f3, by rw [f4.length]; exact hl, A6, _, F6, h6, (e4.trans e5).trans e6, ?_⟩
      have a7 := (a6.front).put (o := .lst (us ++ [v6])) (c' := .lst (acc ++ [s6])) .head ⟨_, upd_same, papp f4 (.cons r6 .nil)⟩
      exact a7.back
    | false => exact ⟨A5, acc, F5, h5.2 rfl, e4.trans e5, a5⟩
  · have ei : i = xs.length := by omega
    subst ei
    refine .inl ⟨⟨us, hH, by rw [r2.length]; exact Nat.le_refl _⟩, ?_⟩
    exact q _ _ _ F2 H2 (je A2 acc hj p) (e1.trans e2) a2.front rfl
theorem wp_lcMOP {enc : α → PyData} {xs : List α} (to : TOnly g vs) (p : α → Bool) (f : α → PyData) (hl : xs.length ≤ sizeLine)
    (h : Wp K A tl S fun A1 s0 => ∃ a, s0 = .ptr a ∧ (a, .lst ((xs.map enc).map .dat)) ∈ A1.cells ∧ (∀ x ∈ xs, LcItem K g tt te S vs A1 (.dat (enc x)) (p x) (f x)) ∧ ∀ q, k (A1.add q (.lst (((xs.filter p).map f).map .dat))) (.ptr q)) : Wp K A (tLc (iList K tl) g tt te vs) S k :=
  wp_lcOP to <| Wp.imp h fun A1 s0 ⟨a, e, ha, hs, hk⟩ => by
    refine ⟨a, (xs.map enc).map .dat, e, fun i A2 acc => A2 = A1 ∧ i ≤ xs.length ∧ acc = (((xs.take i).filter p).map f).map .dat, ⟨rfl, Nat.zero_le _, by simp⟩, fun i A2 acc ⟨e1, _, _⟩ => by rw [e1]; exact ha, fun i s hi A2 acc ⟨e1, e0, e2⟩ => ?_, fun A2 acc ⟨e1, e0, e2⟩ q => ?_⟩
    · subst e1; subst e2
      obtain ⟨x, hx, rfl⟩ := get_enc hi
      have hlt := (List.getElem?_eq_some_iff.mp hx).1
      refine (hs x (List.mem_of_getElem? hx)).imp fun A3 S3 h3 => h3.imp fun A4 b ⟨e5, h5, h6⟩ => ⟨fun hb => ?_, fun hb => ?_⟩
      · rw [e5] at hb
        refine (h5 hb).imp fun A5 s5 ⟨e6, e7⟩ => ?_
        subst e6; subst e7
        refine ⟨?_, rfl, hlt, by rw [filter_take p f hx, if_pos hb, List.map_append]; rfl⟩
        have h1 := List.length_filter_le p (xs.take i)
        have h2 : (xs.take i).length = i := by rw [List.length_take]; omega
        rw [List.length_map, List.length_map]
        omega
      · rw [e5] at hb
        have := h6 hb
        subst this
        exact ⟨rfl, hlt, by rw [filter_take p f hx, if_neg (by rw [hb]; exact Bool.false_ne_true), List.append_nil]⟩
    · subst e1; subst e2
      rw [List.length_map, List.length_map, List.take_length]
      exact hk q
theorem wp_lcMP {enc : α → PyData} {xs : List α} (to : TOnly g vs) (p : α → Bool) (f : α → PyData) (hl : xs.length ≤ sizeLine)
    (h : Wp K A tl S fun A1 s0 => ∃ a, s0 = .ptr a ∧ (a, .lst ((xs.map enc).map .dat)) ∈ A1.cells ∧ (∀ x ∈ xs, LcItem K g tt te S vs A1 (.dat (enc x)) (p x) (f x)) ∧ k A1 (.dat (.list ((xs.filter p).map f)))) : Wp K A (tLc (iList K tl) g tt te vs) S k :=
  wp_frz <| wp_lcMOP to p f hl <| Wp.imp h fun A1 s0 ⟨a, e, ha, hs, hk⟩ => ⟨a, e, ha, hs, fun q => ⟨q, _, A1.cells, rfl, .head, hk⟩⟩
end
end DL

/-! len(x) of an object D by its own __len__. -/
namespace DL
open PySem L2 PySem.Spec PyProof.Rows
open Builtin
def rLenI (C : Addr) (sp : Sp) (E : XK) : List V → Hp → VK → Prop := fun vs H Q => ∃ a dx fs, vs = [V.ref a] ∧ H a = some (.ins C dx fs) ∧ sp [V.ref a] H (fun v H' => ∃ n : Int, v = .int n ∧ 0 ≤ n ∧ n < 2 ^ 63 ∧ Q (.int n) H') E
theorem call_lenI {X : Cx} {CX : CXT} {k : Nat} {C f : Addr} {fd : FuncData} {ps : List Str} {sp : Sp} {E : XK} (hm : Meth X.K C "__len__" f) (F : FnOk X.prog X.w X.K X.mg X.base CX k f fd ps sp) (hr : Room (k + 1) X.A)
    (hb : Binds X.K fd ps []) (hx : Passes CX X E) : CallR X (.builtin "len") (rLenI C sp E) := by
  intro pins s σ H xs us Q I r h
  obtain ⟨a, dx, fs, rfl, ha, q⟩ := h
  obtain ⟨u, rfl, ru⟩ := vals1 r
  obtain rfl : u = Value.ref a := ru
  obtain ⟨mA, J, _⟩ := ins_get I.hok ha
  obtain ⟨od, J, _⟩ := J.look
  have e0 : Env0 X.prog X.w X.K X.mg X.base X.A.in1 X.stack s H := I.env0.in1
  have hl := F.len _ _ _ _ q
  have r2 : Vals [V.ref a] [Value.ref a] := .cons rfl .nil
  refine Calls.call_function_entry kind_len plain_len entry_len (args_len1 _) ?_
  unfold Builtin.«len»
  refine wpAny_bind (m := oneArg "len" _) (wpAny_pure ?_)
  refine wpAny_bind (m := callSpecial? (.ref a) (Str.ofString "__len__")) (PySem.W.special_fn I.kIn J hm.at_ (beq_iff_eq.mp hm.fn) ?_)
  refine wpAny_call (codeAny_mono (F.run X.A.in1 X.stack s H ⟨[.ref a], []⟩ [.ref a] [.ref a] _ E hr.in1 e0 (by
    have := hb s [.ref a] I.kIn (by simpa using hl)
    simpa using this) r2 q) fun z s' hq => ?_)
  cases z with
  | error e => exact hx pins σ H s e s' I hq
  | ok fl =>
    cases fl with
    | ret u =>
      obtain ⟨v, H', I', rv, n, rfl, h0, h1, hQ⟩ := I.after hq
      obtain ⟨t, rfl⟩ := rv
      refine wpAny_bind (wpAny_holding (wpAny_pure ?_))
      refine wpAny_bind (wpAny_letGo ?_)
      show wpAny _ _ (if n < 0 then _ else _) _ _ _
      rw [if_neg (by omega)]
      show wpAny _ _ (if n ≥ 2 ^ 63 then _ else _) _ _ _
      rw [if_neg (by omega)]
      exact wpAny_bind (wpAny_mkInt (wpAny_pure ⟨_, rfl, ⟨.int n, H', I'.tok _, ⟨_, rfl⟩, hQ⟩⟩))
    | next => exact False.elim hq
    | brk => exact False.elim hq
    | cont => exact False.elim hq
section
variable {K : PySem.W.Frag} {A : Amb} {S : List SV} {k : KA} {C : Addr} {W : List SV → Amb → KA → Prop} {EX : XK} {ta : TE}
theorem cw_lenI {p dx : Addr} {fs : List (Str × SV)} (hp : (p, .ins C dx fs) ∈ A.cells) (h : W [.ptr p] A fun A1 s => ∃ n : Nat, s = .dat (.int n) ∧ n < 2 ^ 60 ∧ k A1 (.dat (.int n))) : CW K (rLenI C (spW K W) EX) [.ptr p] A k := fun R F H vs Q a r q => by
  obtain ⟨v, rfl, r1⟩ := one_of r
  obtain rfl : v = .ref p := r1
  obtain ⟨_, _, us, h1, _⟩ := At.cell a p _ (List.mem_append_left _ hp)
  refine ⟨p, dx, us, rfl, h1, A, R, F, _, _, a, .cons (show SR K F (.ref p) (.ptr p) from rfl) .nil, h, fun A1 s v F1 H1 ⟨n, hs, hn, hk⟩ e1 a1 r1 => ?_⟩
  subst hs
  obtain rfl := sr_int r1
  exact ⟨n, rfl, by omega, by omega, q A1 _ _ F1 H1 hk e1 a1 (.int _)⟩
end
end DL

/-! min(xs) of a list D of alike data. -/
namespace DL
open PySem L2 PySem.Spec PyProof.Rows
open PySem.W (AlikeAll)
/-- the least, and where it stands -/
theorem min_list_at {prog : Program} {w : World} {A : Around} {E : Value → Shared → Prop} {s : Shared} {l : Addr} {vs : Array Value} {x : PyData} {xs : List PyData} {as : List Addr} {Q : Value → Shared → Prop} (hh : A.handled = none) (hl : s.heap.IsList l vs) (hr : ReadsAll s.heap vs.toList (x :: xs) as) (ha : AlikeAll (x :: xs)) (hu : A.units + 1 + PyData.depthAll (x :: xs) < cLine)
    (h : ∀ (i : Nat) v h' tk, vs[i]? = some v → (x :: xs)[i]? = some (PySem.W.minD x xs) → (∀ b o, s.heap.get? b = some o → h'.get? b = some o) → Q v { s with heap := h', toks := tk }) :
    wpAny (model prog w) A (call (.builtin "min") [.ref l]) Q E s := by
  have hn : vs.size = xs.length + 1 := PySem.W.readsAll_len hr
  refine call_min_walkH (PySem.W.iter_listW (A := A.in1) hh hl fun s₂ e W st hfp hw hk => ?_)
  refine ⟨_, _, _, _, _, _, _, s.heap, _, rfl, W, st, hfp, by omega, hw, hk, PySem.W.cmpIn_lt (A := A.in1) hr ha (by show A.units + 1 + _ < _; exact hu), fun v s' hP m => ?_⟩
  obtain ⟨h', tk, rfl, hk'⟩ := PySem.W.moved_old e rfl m
  have e1 : vs.size - 1 = xs.length := by omega
  rw [e1] at hP
  obtain ⟨e0, e2⟩ := PySem.W.argBest_fold PySem.W.dataLt PyData.none x xs xs.length (Nat.le_refl _)
  rw [List.take_length] at e2
  refine h _ v h' tk hP ?_ hk'
  have hlt : argBest (fun i j => PySem.W.dataLt ((x :: xs).getD i .none) ((x :: xs).getD j .none)) xs.length < (x :: xs).length := by rw [List.length_cons]; omega
  rw [List.getD_eq_getElem?_getD, List.getElem?_eq_getElem hlt] at e2
  rw [List.getElem?_eq_getElem hlt]
  exact congrArg some e2
def rMinD (K : PySem.W.Frag) : List V → Hp → VK → Prop := fun vs H Q => ∃ (a : Addr) (xs : List V) (x : PyData) (ds : List PyData), vs = [V.ref a] ∧ SqL K H a xs ∧ DpAll K H xs (x :: ds) ∧ AlikeAll (x :: ds) ∧ PyData.depthAll (x :: ds) ≤ 60 ∧
  ∀ (i : Nat) v, xs[i]? = some v → (x :: ds)[i]? = some (PySem.W.minD x ds) → Q v H
theorem cr_minD {X : Cx} (hc : X.calm = true) (hu : X.A.units + 65 < cLine) : CallR X (.builtin "min") (rMinD X.K) := by
  intro pins s σ H vs us Q I r h
  obtain ⟨a, xs, x, ds, rfl, hs, hd, hal, hdep, q⟩ := h
  obtain ⟨its, rv, hl, hz⟩ := I.list hs
  rw [Vals.ref1 r]
  obtain ⟨as, hr⟩ := Dp.readsAll I _ _ _ hd rv
  refine min_list_at (I.ok.hd hc) hl.isList (by simpa using hr) hal (by omega) fun i u h' tk hi hm hk => ?_
  have hi2 : its[i]? = some u := by simpa using hi
  have hlt : i < xs.length := by
    rw [DpAll_length hd]
    exact (List.getElem?_eq_some_iff.mp hm).1
  obtain ⟨u2, hu2, ru⟩ := rv.get (List.getElem?_eq_getElem hlt)
  rw [hi2] at hu2
  cases hu2
  exact ⟨_, H, I.kept hk, ru, q i _ (List.getElem?_eq_getElem hlt) hm⟩
theorem cr_minDK (K : PySem.W.Frag) {X : Cx} (hc : X.calm = true) (hu : X.A.units + 65 < cLine) (h : X.K = K := by rfl) : CallR X (.builtin "min") (rMinD K) := h ▸ cr_minD hc hu
section
variable {K : PySem.W.Frag} {A : Amb} {k : KA}
theorem alike_all {ds : List PyData} (h : PySem.W.AllAlike ds) (hn : ∀ d ∈ ds, d ≠ .none) : AlikeAll ds := ⟨fun x hx y hy => h x hx y hy, hn⟩
theorem cw_minL {x : PyData} {ds : List PyData} (hal : AlikeAll (x :: ds)) (hdep : PyData.depthAll (x :: ds) ≤ 60) (h : k A (.dat (PySem.W.minD x ds))) : CW K (rMinD K) [.dat (.list (x :: ds))] A k := fun R F H vs Q a r q => by
  obtain ⟨v, rfl, r1⟩ := one_of r
  obtain ⟨p, xs, rfl, h1, h2⟩ := sr_lst r1
  refine ⟨p, xs, x, ds, rfl, .inl (.inl (a.same _ _ h1)), dpall_of (h2.mono a.same) (fun d hd => nd_alike d (hal.1 d hd d hd)), hal, hdep, fun i v hv hm => ?_⟩
  obtain ⟨d, hd1, hd2⟩ := h2.get hv
  rw [hm] at hd1
  cases hd1
  exact q _ _ _ _ _ h (Same.refl F) a hd2
theorem cw_minP {p : Addr} {x : PyData} {ds : List PyData} (hp : (p, .lst ((x :: ds).map .dat)) ∈ A.cells) (hal : AlikeAll (x :: ds)) (hdep : PyData.depthAll (x :: ds) ≤ 60) (h : k A (.dat (PySem.W.minD x ds))) : CW K (rMinD K) [.ptr p] A k := fun R F H vs Q a r q => by
  obtain ⟨v, rfl, r1⟩ := one_of r
  obtain rfl : v = .ref p := r1
  obtain ⟨xs, h1, h2⟩ := a.cellD hp
  refine ⟨p, xs, x, ds, rfl, .inl (.inl h1), dpall_of (h2.mono a.same) (fun d hd => nd_alike d (hal.1 d hd d hd)), hal, hdep, fun i v hv hm => ?_⟩
  obtain ⟨d, hd1, hd2⟩ := h2.get hv
  rw [hm] at hd1
  cases hd1
  exact q _ _ _ _ _ h (Same.refl F) a hd2
theorem mt_indexDK (K : PySem.W.Frag) {X : Cx} (hu : X.A.units + 65 < cLine) (h : X.K = K := by rfl) : MtR X "list.index" (rIndexD K) := h ▸ mt_indexD hu
end
section
variable {K : PySem.W.Frag} {A : Amb} {S : List SV} {k : KA} {to te : TE}
/-- xs.index(x), data, the list handed on -/
theorem wp_indexD (h : Wp K A to S fun A1 s => ∃ ds : List PyData, s = .dat (.list ds) ∧ Wp K A1 te S fun A2 s2 => ∃ (d z : PyData) (j : Nat), s2 = .dat d ∧ (∀ x ∈ ds, x.hasDict = false) ∧ d.hasDict = false ∧ SeqAt.shaped (.list ds) = true ∧ SeqAt.shaped d = true ∧ ds[j]? = some z ∧ PyData.eqv z d = true ∧ (∀ (m : Nat) (z' : PyData), m < j → ds[m]? = some z' → PyData.eqv z' d = false) ∧ k A2 (.dat (.int j))) :
    Wp K A (tBM K "list" (rIndexD K) to (tCons te tNil)) S k := fun R F σ H Q a sd q =>
  h R F σ H _ a sd fun A1 s v F1 H1 ⟨ds, hs, hw⟩ e1 a1 r1 => by
    subst hs
    obtain ⟨p, xs, rfl, h1, h2⟩ := sr_lst r1
    refine ⟨.inl ⟨rfl, _, .inl (.inl (a1.same _ _ h1))⟩, hw R F1 σ H1 _ a1 (sd.mono e1) fun A2 s2 w F2 H2 ⟨d, z, j, hs2, n1, n2, sl, sd2, hz, hzj, hno, hk⟩ e2 a2 r2 => ?_⟩
    subst hs2
    have e3 := e2.trans a2.same
    exact ⟨p, w, d, ds, j, z, rfl, rfl, .lst (.inl (.inl (e3 _ _ h1))) (dpall_of (h2.mono e3) n1), (Dt.mono a2.same r2).dp n2, sl, sd2, hz, hzj, hno, q _ _ _ _ _ hk (e1.trans e2) a2 (.int _)⟩
/-- .. one's own -/
theorem wp_indexP (h : Wp K A to S fun A1 s => ∃ (p : Addr) (ds : List PyData), s = .ptr p ∧ (p, .lst (ds.map .dat)) ∈ A1.cells ∧ Wp K A1 te S fun A2 s2 => ∃ (d z : PyData) (j : Nat), s2 = .dat d ∧ (p, .lst (ds.map .dat)) ∈ A2.cells ∧ (∀ x ∈ ds, x.hasDict = false) ∧ d.hasDict = false ∧ SeqAt.shaped (.list ds) = true ∧ SeqAt.shaped d = true ∧ ds[j]? = some z ∧ PyData.eqv z d = true ∧ (∀ (m : Nat) (z' : PyData), m < j → ds[m]? = some z' → PyData.eqv z' d = false) ∧ k A2 (.dat (.int j))) :
    Wp K A (tBM K "list" (rIndexD K) to (tCons te tNil)) S k := fun R F σ H Q a sd q =>
  h R F σ H _ a sd fun A1 s v F1 H1 ⟨p, ds, hs, hp, hw⟩ e1 a1 r1 => by
    subst hs
    obtain rfl : v = .ref p := r1
    obtain ⟨xs, h1, h2⟩ := a1.cellD hp
    refine ⟨.inl ⟨rfl, _, .inl (.inl h1)⟩, hw R F1 σ H1 _ a1 (sd.mono e1) fun A2 s2 w F2 H2 ⟨d, z, j, hs2, hp2, n1, n2, sl, sd2, hz, hzj, hno, hk⟩ e2 a2 r2 => ?_⟩
    subst hs2
    obtain ⟨ys, g1, g2⟩ := a2.cellD hp2
    exact ⟨p, w, d, ds, j, z, rfl, rfl, .lst (.inl (.inl g1)) (dpall_of (g2.mono a2.same) n1), (Dt.mono a2.same r2).dp n2, sl, sd2, hz, hzj, hno, q _ _ _ _ _ hk (e1.trans e2) a2 (.int _)⟩
/-- a slice of one's own list -/
theorem sw_ptr {p : Addr} {ds : List PyData} {lo hi : Option Int} (hp : (p, .lst (ds.map .dat)) ∈ A.cells) (h : k A (.dat (.list (cutD ds lo hi)))) : SW K (rSlL K) (.ptr p) lo hi A k := fun R F H v Q a r q => by
  obtain rfl : v = .ref p := r
  obtain ⟨xs, h1, h2⟩ := a.cellD hp
  refine ⟨p, xs, rfl, .inl (.inl h1), fun n hn => ?_⟩
  obtain ⟨a2, e2⟩ := a.alloc (o := .lst (cutV xs lo hi)) hn
  exact q A _ _ _ _ h e2 a2 (.lst upd_same ((cut_dt h2 lo hi).mono e2))
end
end DL

/-! list(zip(xs, ys)) of two lists. -/
namespace DL
open PySem L2 RZ PyProof.Rows
open Sem (wp)
theorem vals_refsZ : ∀ Ts : List Addr, Vals (Ts.map V.ref) (Ts.map Value.ref)
  | [] => .nil
  | _ :: Ts => .cons rfl (vals_refsZ Ts)
theorem zip_nolen : typeLookup (.type "zip") "__len__" = pure none := am_miss_of_fast (by decide +kernel)
theorem zip_nohint : typeLookup (.type "zip") "__length_hint__" = pure none := am_miss_of_fast (by decide +kernel)
section
variable {prog : Program} {w : World} {A : Around} {E : Value → Shared → Prop} {s : Shared}
structure ZSt (z TI TO i1 i2 l1 l2 S : Addr) (xs ys : Array Value) (i : Nat) (h : Heap) : Prop where
  ti : IsPair h TI (.ref i1) (.ref i2)
  it1 : h.IsListIter i1 l1 i
  it2 : h.IsListIter i2 l2 i
  ls1 : h.IsList l1 xs
  ls2 : h.IsList l2 ys
  to : ∃ o, h.get? TO = some o
  zz : (IsZip h z TI TO .none ∧ ∃ a b, IsPair h TO a b) ∨ ∃ T f oT, IsZipHeld h z TI TO T f ∧ h.get? T = some oT ∧ T ≠ z ∧ T ≠ i1 ∧ T ≠ i2 ∧ T ≠ S
theorem ZSt.keep {z TI TO i1 i2 l1 l2 S : Addr} {xs ys : Array Value} {i : Nat} {h h' : Heap} (st : ZSt z TI TO i1 i2 l1 l2 S xs ys i h) (hS : S ∉ [z, TI, TO, i1, i2, l1, l2]) (hk : ∀ b o, b ≠ S → h.get? b = some o → h'.get? b = some o) : ZSt z TI TO i1 i2 l1 l2 S xs ys i h' := by
  simp only [List.mem_cons, List.not_mem_nil, or_false, not_or] at hS
  obtain ⟨dz, dTI, dTO, di1, di2, dl1, dl2⟩ := hS
  obtain ⟨hTI, h1, h2, hl1, hl2, ⟨oO, hO⟩, hz⟩ := st
  refine ⟨hk _ _ (Ne.symm dTI) hTI, h1.at fun o e => hk _ o (Ne.symm di1) e, h2.at fun o e => hk _ o (Ne.symm di2) e, hl1.at fun o e => hk _ o (Ne.symm dl1) e, hl2.at fun o e => hk _ o (Ne.symm dl2) e, ⟨oO, hk _ _ (Ne.symm dTO) hO⟩, ?_⟩
  rcases hz with ⟨hz, a, b, hTO⟩ | ⟨T, f, oT, hz, hT, r1, r2, r3, r4⟩
  · exact .inl ⟨hk _ _ (Ne.symm dz) hz, a, b, hk _ _ (Ne.symm dTO) hTO⟩
  · exact .inr ⟨T, f, oT, hk _ _ (Ne.symm dz) hz, hk _ _ r4 hT, r1, r2, r3, r4⟩
theorem zst_item {z TI TO i1 i2 l1 l2 S : Addr} {xs ys : Array Value} {x y : Value} {i : Nat} {Q : Option Value → Shared → Prop} (D : ZipApart z TI TO i1 i2 l1 l2) (st : ZSt z TI TO i1 i2 l1 l2 S xs ys i s.heap) (ex : xs[i]? = some x) (ey : ys[i]? = some y) (hS : S < s.heap.objs.size)
    (hQ : ∀ h', ZSt z TI TO i1 i2 l1 l2 S xs ys (i + 1) h' → IsPair h' s.heap.objs.size x y → (∀ c o, c ∉ [z, TO, i1, i2] → s.heap.get? c = some o → h'.get? c = some o) → Q (some (.ref s.heap.objs.size)) { s with heap := h' }) :
    wpAny (model prog w) A (pyNext (.ref z)) Q E s := by
  obtain ⟨hTI, h1, h2, hl1, hl2, ⟨oO, hO⟩, hz⟩ := st
  have lt : ∀ {c o}, s.heap.get? c = some o → s.heap.objs.size ≠ c := fun e => Nat.ne_of_gt (Heap.lt_size e)
  have n1 : s.heap.objs.size ≠ i1 := let ⟨_, e, _⟩ := h1; lt e
  have n2 : s.heap.objs.size ≠ i2 := let ⟨_, e, _⟩ := h2; lt e
  rcases hz with ⟨hz, a, b, hTO⟩ | ⟨T, f, oT, hz, hT, r1, r2, r3, r4⟩
  · refine wpAny_pyNext_zip_item D hz hTI hTO h1 h2 hl1 hl2 ex ey fun h' a1 a2 a3 a4 a5 a6 hk => ?_
    exact hQ h' ⟨hk _ _ D.TIz D.TITO D.TIi1 D.TIi2 hTI, a3, a4, hl1.at fun o e => hk _ o D.l1z D.l1TO D.l1i1 D.l1i2 e, hl2.at fun o e => hk _ o D.l2z D.l2TO D.l2i1 D.l2i2 e, ⟨_, a2⟩,
        .inr ⟨s.heap.objs.size, false, _, a1, a5, lt hz, n1, n2, Nat.ne_of_gt hS⟩⟩ a5
      fun c o hc e => hk c o (fun x => hc (by simp [x])) (fun x => hc (by simp [x])) (fun x => hc (by simp [x])) (fun x => hc (by simp [x])) e
  · refine wpAny_pyNext_zip_item_held D hz hT hTI h1 h2 hl1 hl2 ex ey fun h' a1 a3 a4 a5 a6 hk => ?_
    exact hQ h' ⟨hk _ _ D.TIz D.TIi1 D.TIi2 hTI, a3, a4, hl1.at fun o e => hk _ o D.l1z D.l1i1 D.l1i2 e, hl2.at fun o e => hk _ o D.l2z D.l2i1 D.l2i2 e, ⟨_, hk _ _ D.TOz D.TOi1 D.TOi2 hO⟩,
        .inr ⟨T, true, oT, a1, hk _ _ r1 r2 r3 hT, r1, r2, r3, r4⟩⟩ a5
      fun c o hc e => hk c o (fun x => hc (by simp [x])) (fun x => hc (by simp [x])) (fun x => hc (by simp [x])) e
theorem zst_done {z TI TO i1 i2 l1 l2 S : Addr} {xs ys : Array Value} {i : Nat} {Q : Option Value → Shared → Prop} (hh : A.handled = none) (D : ZipApart z TI TO i1 i2 l1 l2) (st : ZSt z TI TO i1 i2 l1 l2 S xs ys i s.heap) (hend : xs[i]? = none ∨ ys[i]? = none)
    (hQ : ∀ h', (∀ c o, c ∉ [z, TO, i1, i2] → s.heap.get? c = some o → h'.get? c = some o) → Q none { s with heap := h' }) :
    wpAny (model prog w) A (pyNext (.ref z)) Q E s := by
  obtain ⟨hTI, h1, h2, hl1, hl2, ⟨oO, hO⟩, hz⟩ := st
  rcases hz with ⟨hz, a, b, hTO⟩ | ⟨T, f, oT, hz, hT, r1, r2, r3, r4⟩
  · exact wpAny_pyNext_zip_end hh D hz hTI hTO h1 h2 hl1 hl2 hend fun h' hk => hQ h' fun c o hc e => hk c o (fun x => hc (by simp [x])) (fun x => hc (by simp [x])) (fun x => hc (by simp [x])) (fun x => hc (by simp [x])) e
  · exact wpAny_pyNext_zip_end_held hh D hz hT hTI h1 h2 hl1 hl2 hend fun h' hk => hQ h' fun c o hc e => hk c o (fun x => hc (by simp [x])) (fun x => hc (by simp [x])) (fun x => hc (by simp [x])) e
/-- what was made so far -/
structure ZMade (m0 : Nat) (h0 : Heap) (ps : List (Value × Value)) (S : Addr) (acc : Array Value) (i : Nat) (h : Heap) (Ts : List Addr) : Prop where
  acc_ : acc.toList = Ts.map .ref
  len : Ts.length = i
  nd : Ts.Nodup
  new : ∀ T ∈ Ts, m0 ≤ T ∧ T ≠ S
  pr : ∀ (j : Nat) (T : Addr), Ts[j]? = some T → ∃ x y, ps[j]? = some (x, y) ∧ IsPair h T x y
  keep : ∀ b o, b < m0 → h0.get? b = some o → h.get? b = some o
theorem zip_loop {z TI TO i1 i2 l1 l2 S : Addr} {xs ys : Array Value} {ps : List (Value × Value)} {m0 : Nat} {h0 : Heap} {res : Value} {R : Result → Shared → Prop} (hh : A.handled = none) (D : ZipApart z TI TO i1 i2 l1 l2)
    (hS : S ∉ [z, TI, TO, i1, i2, l1, l2]) (hps : ps = xs.toList.zip ys.toList) (hsz : ps.length ≤ sizeLine) (hm : ∀ b ∈ [z, TO, i1, i2, S], m0 ≤ b) :
    ∀ (k i : Nat) (s : Shared) (acc : Array Value) (c : Nat) (Ts : List Addr), ps.length - i = k → i ≤ ps.length → ZSt z TI TO i1 i2 l1 l2 S xs ys i s.heap → s.heap.get? S = some { cls := .type "list", dict := none, data := .seq acc c, slots := #[] } →
    ZMade m0 h0 ps S acc i s.heap Ts → (∀ T ∈ Ts, T ∉ [z, TO, i1, i2]) →
    (∀ h' acc' c' Ts', h'.get? S = some { cls := .type "list", dict := none, data := .seq acc' c', slots := #[] } → ZMade m0 h0 ps S acc' ps.length h' Ts' → R (.ok (.ret res)) { s with heap := h' }) →
    codeAny (model prog w) A (.builtin "list.extend.loop" ⟨[.ref S, .ref z, res], []⟩) R s := by
  have hz1 : ∀ {i : Nat}, xs[i]? = xs.toList[i]? := fun {i} => (Array.getElem?_toList ..).symm
  have hz2 : ∀ {i : Nat}, ys[i]? = ys.toList[i]? := fun {i} => (Array.getElem?_toList ..).symm
  have hSz : S ∉ [z, TO, i1, i2] := fun q => hS (by simp at q ⊢; rcases q with q | q | q | q <;> simp [q])
  intro k
  induction k with
  | zero =>
    intro i s acc c Ts hk hi st hSo mk hT hR
    have hin : i = ps.length := by omega
    subst hin
    refine codeAny_builtin F.entry_extend_loop ?_
    rw [Around.under_plainId F.plain_extend_loop _]
    show wpAny _ A.in1 (pyNext (.ref z) >>= _) _ _ s
    have hend : xs[ps.length]? = none ∨ ys[ps.length]? = none := by
      have hl : ps.length = min xs.size ys.size := by rw [hps, List.length_zip, Array.length_toList, Array.length_toList]
      rcases Nat.le_total xs.size ys.size with h | h
      · exact .inl (Array.getElem?_eq_none (by rw [hl, Nat.min_eq_left h]; exact Nat.le_refl _))
      · exact .inr (Array.getElem?_eq_none (by rw [hl, Nat.min_eq_right h]; exact Nat.le_refl _))
    refine wpAny_bind (zst_done hh D st hend fun h' hk' => ?_)
    refine wpAny_pure (hR h' acc c Ts (hk' _ _ hSz hSo) ⟨mk.acc_, mk.len, mk.nd, mk.new, fun j T e => ?_, fun b o hb e => hk' b o (fun q => absurd (hm b (by simp at q ⊢; rcases q with q | q | q | q <;> simp [q])) (by omega)) (mk.keep b o hb e)⟩)
    obtain ⟨x, y, e1, e2⟩ := mk.pr j T e
    exact ⟨x, y, e1, hk' _ _ (hT T (List.mem_of_getElem? e)) e2⟩
  | succ k ih =>
    intro i s acc c Ts hk hi st hSo mk hT hR
    have hlt : i < ps.length := by omega
    obtain ⟨⟨x, y⟩, exy⟩ : ∃ p, ps[i]? = some p := ⟨ps[i], List.getElem?_eq_getElem hlt⟩
    have exy' := exy
    rw [hps] at exy'
    obtain ⟨ex, ey⟩ := List.getElem?_zip_eq_some.mp exy'
    refine codeAny_builtin F.entry_extend_loop ?_
    rw [Around.under_plainId F.plain_extend_loop _]
    show wpAny _ A.in1 (pyNext (.ref z) >>= _) _ _ s
    have hSlt : S < s.heap.objs.size := Heap.lt_size hSo
    refine wpAny_bind (zst_item D st (by rw [hz1]; exact ex) (by rw [hz2]; exact ey) hSlt fun h' st' hp' hk' => ?_)
    have hSo' := hk' _ _ hSz hSo
    have hacc : acc.size = i := by rw [← Array.length_toList, mk.acc_, List.length_map, mk.len]
    have hTne : ∀ T ∈ Ts, T ≠ s.heap.objs.size := fun T q e => by
      obtain ⟨j, hj⟩ := List.getElem?_of_mem q
      obtain ⟨_, _, _, e2⟩ := mk.pr j T hj
      exact absurd (Heap.lt_size e2) (by rw [e]; exact Nat.lt_irrefl _)
    have hne : s.heap.objs.size ∉ [z, TO, i1, i2] := fun q => by
      have lt : ∀ {c o}, s.heap.get? c = some o → s.heap.objs.size ≠ c := fun e => Nat.ne_of_gt (Heap.lt_size e)
      simp only [List.mem_cons, List.not_mem_nil, or_false] at q
      rcases q with q | q | q | q
      · rcases st.zz with ⟨e, _⟩ | ⟨_, _, _, e, _⟩
        · exact lt e q
        · exact lt e q
      · obtain ⟨_, e⟩ := st.to; exact lt e q
      · obtain ⟨_, e, _⟩ := st.it1; exact lt e q
      · obtain ⟨_, e, _⟩ := st.it2; exact lt e q
    show wpAny _ A.in1 (updateSeq S (·.push (.ref s.heap.objs.size)) >>= _) _ _ _
    refine wpAny_bind ?_
    refine wpAny_updateSeq hSo' rfl (wpAny_pure ⟨plainId_quiet F.plain_extend_loop _, ih (i + 1) _ (acc.push (.ref s.heap.objs.size)) _ (Ts ++ [s.heap.objs.size]) (by omega) hlt (st'.keep hS fun b o hb e => (Heap.get?_update_other _ _ (Ne.symm hb)).trans e) (Heap.get?_update_self _ hSo' rfl) ⟨?_, ?_, ?_, fun T q => ?_, fun j T e => ?_, fun b o hb e => ?_⟩ (fun T q => ?_) hR⟩)
      (by rw [hacc]; omega) (by show (acc.push _).size ≤ sizeLine + 1; rw [Array.size_push, hacc]; omega)
    · rw [Array.toList_push, mk.acc_, List.map_append]; rfl
    · rw [List.length_append, mk.len]; rfl
    · rw [List.nodup_append]
      exact ⟨mk.nd, by simp, fun a ha b hb e => hTne a ha (by rw [e]; exact List.mem_singleton.mp hb)⟩
    · rcases List.mem_append.mp q with q | q
      · exact mk.new T q
      · rw [List.mem_singleton.mp q]
        exact ⟨Nat.le_of_lt (Nat.lt_of_le_of_lt (hm S (by simp)) hSlt), Nat.ne_of_gt hSlt⟩
    · have up : ∀ b o, b ≠ S → h'.get? b = some o → (h'.update S (Obj.mapSeq (·.push (Value.ref s.heap.objs.size)))).get? b = some o := fun b o hb e => (Heap.get?_update_other _ _ (Ne.symm hb)).trans e
      by_cases hj : j < Ts.length
      · rw [List.getElem?_append_left hj] at e
        obtain ⟨x, y, e1, e2⟩ := mk.pr j T e
        exact ⟨x, y, e1, up _ _ (mk.new T (List.mem_of_getElem? e)).2 (hk' _ _ (hT T (List.mem_of_getElem? e)) e2)⟩
      · rw [List.getElem?_append_right (by omega)] at e
        have hj2 : j - Ts.length = 0 := by
          have := (List.getElem?_eq_some_iff.mp e).1
          simp at this
          exact this
        rw [hj2] at e
        obtain rfl : s.heap.objs.size = T := Option.some.inj e
        have hji : j = i := by have := mk.len; omega
        rw [hji]
        exact ⟨x, y, exy, up _ _ (Nat.ne_of_gt hSlt) hp'⟩
    · have hbS : b ≠ S := fun q => absurd (hm S (by simp)) (by rw [q] at hb; omega)
      refine (Heap.get?_update_other _ _ (Ne.symm hbS)).trans (hk' b o (fun q => absurd (hm b (by simp at q ⊢; rcases q with q | q | q | q <;> simp [q])) (by omega)) (mk.keep b o hb e))
    · rcases List.mem_append.mp q with q | q
      · exact hT T q
      · rw [List.mem_singleton.mp q]; exact hne
theorem zip_extend {z TI TO i1 i2 l1 l2 S : Addr} {xs ys : Array Value} {ps : List (Value × Value)} {m0 : Nat} {h0 : Heap} {c0 : Nat} {res : Value} {R : Result → Shared → Prop} (hh : A.handled = none) (D : ZipApart z TI TO i1 i2 l1 l2)
    (hS : S ∉ [z, TI, TO, i1, i2, l1, l2]) (hps : ps = xs.toList.zip ys.toList) (hsz : ps.length ≤ sizeLine) (hm : ∀ b ∈ [z, TO, i1, i2, S], m0 ≤ b)
    (hz0 : IsZip s.heap z TI TO .none) (st : ZSt z TI TO i1 i2 l1 l2 S xs ys 0 s.heap) (hSo : s.heap.get? S = some { cls := .type "list", data := .seq #[] c0 }) (hk0 : ∀ b o, b < m0 → h0.get? b = some o → s.heap.get? b = some o)
    (hR : ∀ h' acc' c' Ts', h'.get? S = some { cls := .type "list", dict := none, data := .seq acc' c', slots := #[] } → ZMade m0 h0 ps S acc' ps.length h' Ts' → R (.ok (.ret res)) { s with heap := h' }) :
    wpAny (model prog w) A.in1 (Builtin.List.listExtendWith (.ref S) (.ref z) res)
      (fun fin s' => match fin with | .done f => R (.ok f) s' | .again c' => c'.quiet = true ∧ codeAny (model prog w) A c' R s') (fun e s' => R (.error e) s') s := by
  have hSz : S ≠ z := fun q => hS (by simp [q])
  have hT : s.TypeIs (.ref z) "zip" := ⟨_, hz0, rfl⟩
  unfold Builtin.List.listExtendWith
  refine wpAny_bind (wpAny_typeOf hT ?_)
  have h1 : Builtin.List.listSameRef (.ref S) (.ref z) = false := by simp [Builtin.List.listSameRef, hSz]
  have h2 : (Value.type "zip" == Value.type "list") = false := by decide
  have h3 : (Value.type "zip" == Value.type "tuple") = false := by decide
  simp only [h1, h2, h3, Bool.or_false, Bool.false_eq_true, if_false]
  refine wpAny_bind (wpAny_pyIter_zip hz0 ?_)
  refine wpAny_bind (wpAny_holding ?_)
  unfold Builtin.List.listLengthHint
  refine wpAny_bind (wpAny_specialOf hT zip_nolen ?_)
  show wpAny _ A.in1 (specialOf (Value.ref z) (Str.ofString "__length_hint__") >>= _) _ _ _
  refine wpAny_bind (wpAny_specialOf hT zip_nohint ?_)
  refine wpAny_pure ?_
  show wpAny _ A.in1 (rule "list.extend.makes-room" >>= fun _ => Builtin.List.listTouch (.ref S) >>= fun _ =>
    again (.builtin "list.extend.loop" ⟨[.ref S, .ref z, res], []⟩)) _ _ _
  refine wpAny_bind (wpAny_rule ?_)
  refine wpAny_bind ?_
  show wpAny _ A.in1 (updateSeq S (·.push .none) >>= fun _ => updateSeq S (·.pop)) _ _ _
  refine wpAny_bind (wpAny_updateSeq hSo rfl ?_)
  have hS₂ := Heap.get?_update_self (Obj.mapSeq (·.push Value.none)) hSo rfl
  refine wpAny_updateSeq (hz := by seq_fits) hS₂ rfl ?_
  have hS₃ := Heap.get?_update_self (Obj.mapSeq (·.pop)) hS₂ rfl
  have oth : ∀ b o, b ≠ S → s.heap.get? b = some o → ((s.heap.update S (Obj.mapSeq (·.push Value.none))).update S (Obj.mapSeq (·.pop))).get? b = some o :=
    fun b o hb e => (Heap.get?_update_other _ _ (Ne.symm hb)).trans ((Heap.get?_update_other _ _ (Ne.symm hb)).trans e)
  exact wpAny_pure ⟨plainId_quiet F.plain_extend_loop _, zip_loop hh D hS hps hsz hm _ 0 _ _ _ [] rfl (Nat.zero_le _) (st.keep hS oth) hS₃
    ⟨rfl, rfl, List.nodup_nil, fun T q => (by cases q), fun j T e => (by cases e), fun b o hb e => oth b o (fun q => absurd (hm S (by simp)) (by rw [q] at hb; omega)) (hk0 b o hb e)⟩ (fun T q => (by cases q)) hR⟩
theorem call_list_zip {z TI TO i1 i2 l1 l2 : Addr} {xs ys : Array Value} {ps : List (Value × Value)} {m0 : Nat} {h0 : Heap} {Q : Value → Shared → Prop} (hh : A.handled = none) (D : ZipApart z TI TO i1 i2 l1 l2)
    (hps : ps = xs.toList.zip ys.toList) (hsz : ps.length ≤ sizeLine) (hm : ∀ b ∈ [z, TO, i1, i2], m0 ≤ b) (hm2 : m0 ≤ s.heap.objs.size)
    (hz0 : IsZip s.heap z TI TO .none) (st : ZSt z TI TO i1 i2 l1 l2 s.heap.objs.size xs ys 0 s.heap) (hk0 : ∀ b o, b < m0 → h0.get? b = some o → s.heap.get? b = some o)
    (hQ : ∀ h' acc' c' Ts', h'.get? s.heap.objs.size = some { cls := .type "list", dict := none, data := .seq acc' c', slots := #[] } → ZMade m0 h0 ps s.heap.objs.size acc' ps.length h' Ts' → Q (.ref s.heap.objs.size) { s with heap := h' }) :
    wpAny (model prog w) A (call (.type "list") [.ref z]) Q E s := by
  have lt : ∀ {c o}, s.heap.get? c = some o → s.heap.objs.size ≠ c := fun e => Nat.ne_of_gt (Heap.lt_size e)
  have hS : s.heap.objs.size ∉ [z, TI, TO, i1, i2, l1, l2] := fun q => by
    simp only [List.mem_cons, List.not_mem_nil, or_false] at q
    rcases q with q | q | q | q | q | q | q
    · rcases st.zz with ⟨e, _⟩ | ⟨_, _, _, e, _⟩
      · exact lt e q
      · exact lt e q
    · exact lt st.ti q
    · obtain ⟨_, e⟩ := st.to; exact lt e q
    · obtain ⟨_, e, _⟩ := st.it1; exact lt e q
    · obtain ⟨_, e, _⟩ := st.it2; exact lt e q
    · obtain ⟨_, e, _⟩ := st.ls1; exact lt e q
    · obtain ⟨_, e, _⟩ := st.ls2; exact lt e q
  refine callType_codes (Q₁ := fun obj s₁ => obj = .ref s.heap.objs.size ∧ s₁ = { s with heap := s.heap.push { cls := .type "list", data := .seq #[] } }) F.called_list (F.typeCall_list_1 _) F.entry_list_init
    (code_list_new _ ⟨rfl, rfl⟩) fun obj s₁ h₁ => ?_
  obtain ⟨rfl, rfl⟩ := h₁
  have hSo : (s.heap.push { cls := .type "list", data := .seq #[] }).get? s.heap.objs.size = some { cls := .type "list", data := .seq #[] } := Heap.get?_push_size _ rfl
  refine ⟨⟨_, hSo, rfl⟩, F.args_list_init_2 _ _, ?_⟩
  show wpAny _ A.in1.in1 (do let old ← Builtin.List.listItems (.ref s.heap.objs.size); Builtin.List.listUpdate (.ref s.heap.objs.size) (fun _ => #[]); letGo old.toList.reverse; Builtin.List.listExtendWith (.ref s.heap.objs.size) (.ref z) .none) _ _ _
  refine wpAny_bind ?_
  unfold Builtin.List.listItems
  refine wpAny_bind (wpAny_seqItems hSo rfl (wpAny_pure ?_))
  show wpAny _ A.in1.in1 (updateSeq s.heap.objs.size (fun _ => #[]) >>= fun _ => letGo (#[] : Array Value).toList.reverse >>= fun _ => Builtin.List.listExtendWith (.ref s.heap.objs.size) (.ref z) .none) _ _ _
  refine wpAny_bind (wpAny_updateSeq hSo rfl ?_)
  have hS₂ := Heap.get?_update_self (Obj.mapSeq (fun _ => (#[] : Array Value))) hSo rfl
  have oth : ∀ b o, b ≠ s.heap.objs.size → s.heap.get? b = some o → ((s.heap.push { cls := .type "list", data := .seq #[] }).update s.heap.objs.size (Obj.mapSeq (fun _ => (#[] : Array Value)))).get? b = some o :=
    fun b o hb e => (Heap.get?_update_other _ _ (Ne.symm hb)).trans (Heap.get?_push_of_some _ e)
  refine wpAny_bind (wpAny_letGo ?_)
  refine zip_extend (A := A.in1) (m0 := m0) (h0 := h0) hh D hS hps hsz (fun b q => ?_) (oth z _ (fun q => hS (by simp [q])) hz0) (st.keep hS oth) hS₂ (fun b o hb e => oth b o (fun q => by omega) (hk0 b o hb e)) fun h' acc' c' Ts' h1 h2 => ⟨rfl, hQ h' acc' c' Ts' h1 h2⟩
  simp only [List.mem_cons, List.not_mem_nil, or_false] at q hm
  rcases q with rfl | rfl | rfl | rfl | rfl
  · exact hm _ (.inl rfl)
  · exact hm _ (.inr (.inl rfl))
  · exact hm _ (.inr (.inr (.inl rfl)))
  · exact hm _ (.inr (.inr (.inr rfl)))
  · exact hm2
end
/-! ### at the hand layer -/
def zipChain (Q : List V → Hp → Prop) : List (V × V) → List V → Hp → Prop
  | [], acc, H => Q acc H
  | (x, y) :: r, acc, H => ∀ T, H T = none → zipChain Q r (acc ++ [.ref T]) (upd H T (.tup [x, y]))
/-- the tuples of the chain are tracked, one by one, in the last heap -/
theorem chain_laid {P : Program} {w : World} {h' : Heap} {m0 : Nat} {H0 : Hp} {Q : List V → Hp → Prop} : ∀ (ps : List (V × V)) (Ts : List Addr) (H : Hp) (acc : List V),
    ps.length = Ts.length → (∀ b, b < m0 → H b = H0 b) → HOk P w H h' → Ts.Nodup → (∀ T ∈ Ts, m0 ≤ T ∧ H T = none) →
    (∀ (j : Nat) (T : Addr), Ts[j]? = some T → ∃ x y u v, ps[j]? = some (x, y) ∧ RelV x u ∧ RelV y v ∧ IsPair h' T u v) → zipChain Q ps acc H →
    ∃ H', (∀ b, b < m0 → H' b = H0 b) ∧ HOk P w H' h' ∧ (∀ b, b ∉ Ts → H' b = H b) ∧ Q (acc ++ Ts.map V.ref) H'
  | [], [], H, acc, _, hb, ok, _, _, _, q => ⟨H, hb, ok, fun _ _ => rfl, by have q2 : Q acc H := q; simpa using q2⟩
  | (x, y) :: ps, T :: Ts, H, acc, hl, hb, ok, nd, hn, hp, q => by
    obtain ⟨hm, hT⟩ := hn T List.mem_cons_self
    obtain ⟨x', y', u, v, e, r1, r2, hq⟩ := hp 0 T rfl
    obtain ⟨rfl, rfl⟩ : x = x' ∧ y = y' := by
      have := Option.some.inj e
      exact ⟨congrArg Prod.fst this, congrArg Prod.snd this⟩
    rw [List.nodup_cons] at nd
    have new : ObjOk P w (upd H T (.tup [x, y])) h' T (.tup [x, y]) := ⟨by show 2 ≤ sizeLine; decide, [u, v], .cons r1 (.cons r2 .nil), ⟨_, hq, rfl, _, rfl⟩⟩
    have ok2 : HOk P w (upd H T (.tup [x, y])) h' := fun b o z => by
      by_cases hbT : b = T
      · subst hbT
        rw [upd_same] at z
        cases z
        exact new
      · rw [upd_ne hbT] at z
        exact (ok b o z).stay (fun _ _ _ r => r) (fun d r => by rw [upd_ne (ne_of_none r hT)]; exact r) fun d xs r => by rw [upd_ne (ne_of_none r hT)]; exact r
    obtain ⟨H', g1, g2, g3, g4⟩ := chain_laid (H0 := H0) ps Ts (upd H T (.tup [x, y])) (acc ++ [.ref T]) (by simpa using hl) (fun b z => by rw [upd_ne (show b ≠ T from fun e => absurd z (by rw [e]; exact Nat.not_lt.mpr hm))]; exact hb b z) ok2 nd.2
      (fun T' z => ⟨(hn T' (List.mem_cons_of_mem _ z)).1, by rw [upd_ne (show T' ≠ T from fun e => nd.1 (by rw [← e]; exact z))]; exact (hn T' (List.mem_cons_of_mem _ z)).2⟩) (fun j T' z => hp (j + 1) T' z) (q T hT)
    refine ⟨H', g1, g2, fun b z => ?_, by simpa using g4⟩
    rw [List.mem_cons, not_or] at z
    rw [g3 b z.2, upd_ne z.1]
def tListZip (K : PySem.W.Frag) (ta : TA) : TE := fun σ H Q => ta σ H fun vs H1 => ∃ a b xs ys, vs = [.ref a, .ref b] ∧ SqL K H1 a xs ∧ SqL K H1 b ys ∧
  zipChain (fun acc H2 => ∀ l, H2 l = none → Q (.ref l) (upd H2 l (.lst acc))) (xs.zip ys) [] H1
theorem vals_get {vs : List V} {us : List Value} (r : Vals vs us) {i : Nat} {u : Value} (e : us[i]? = some u) : ∃ v, vs[i]? = some v ∧ RelV v u := by
  have hl := r.length
  have hi : i < vs.length := by rw [hl]; exact (List.getElem?_eq_some_iff.mp e).1
  obtain ⟨u', hu, ru⟩ := r.get (List.getElem?_eq_getElem hi)
  rw [e] at hu
  cases hu
  exact ⟨_, List.getElem?_eq_getElem hi, ru⟩
theorem pe_listZip {X : Cx} {e e2 : Expr} {ta : TA} {p p2 q pos : Pos} (hg : Gl X "list") (hm : X.mg "list" = none) (hg2 : Gl X "zip") (hm2 : X.mg "zip" = none) (ha : PA X [e, e2] ta) (hc : X.calm = true := by rfl)
    (hs : starEach [e, e2] X.env = (false, eval e X.env) :: starEach [e2] X.env := by rfl) (hpl : (backTo q (starEach [e2] X.env)).any (·.1) = false := by rfl)
    (hs2 : starEach [.Call (.Name "zip" p2) [e, e2] [] q] X.env = (false, eval (.Call (.Name "zip" p2) [e, e2] [] q) X.env) :: starEach [] X.env := by rfl) :
    PE X (.Call (.Name "list" p) [.Call (.Name "zip" p2) [e, e2] [] q] [] pos) (tListZip X.K ta) := by
  refine ⟨fun pins s σ H Q I h => ?_⟩
  refine Call_ (ld_blt I hg hm boot_list ?_)
  refine PyProof.Rows.callWith_type1 (PyProof.Rows.args_cons ?_ hs2) hs2 rfl
  refine Call_ (ld_blt I hg2 hm2 PyProof.Rows.boot_zip (PyProof.Rows.callWith_type1 (thn (ha.run q pins s σ H _ I h) fun us s1 ⟨vs, H1, I1, r1, q1⟩ => ?_) hs hpl))
  obtain ⟨a, b, xs, ys, ex, hqx, hqy, q1⟩ := q1
  subst ex
  cases r1 with
  | cons r rr =>
    cases rr with
    | cons r' rr =>
      cases rr
      cases r
      cases r'
      obtain ⟨its, rv, p1, hz1⟩ := I1.list hqx
      obtain ⟨its2, rv2, p2', hz2⟩ := I1.list hqy
      have e1 := rv.length
      have e2 := rv2.length
      refine call_zip_2 p1.isList p2'.isList fun h' hz hTI hTO h1 h2 hsz hk => PyProof.Rows.args_nil ?_
      refine call_list_zip (s := { s1 with heap := h' }) (m0 := s1.heap.objs.size) (h0 := s1.heap) (ps := its.zip its2) (I1.ok.hd hc) (PySem.W.ktu_apart s1.heap.objs.size a b p1.lt p2'.lt) rfl (by rw [List.length_zip]; omega) (fun b hb => ?_) (by show s1.heap.objs.size ≤ h'.objs.size; omega)
        hz ⟨hTI, h1, h2, p1.isList.at fun o z => hk _ o z, p2'.isList.at fun o z => hk _ o z, ⟨_, hTO⟩, .inl ⟨hz, _, _, hTO⟩⟩ (fun b o _ z => hk b o z) fun h'' acc' c' Ts' hl mk => ?_
      · simp only [List.mem_cons, List.not_mem_nil, or_false] at hb
        rcases hb with rfl | rfl | rfl | rfl
        · exact Nat.le_add_right _ _
        · exact Nat.le_add_right _ _
        · exact Nat.le_refl _
        · exact Nat.le_add_right _ _
      have keep : ∀ b o, s1.heap.get? b = some o → h''.get? b = some o := fun b o z => mk.keep b o (Heap.lt_size z) z
      obtain ⟨H', g1, g2, g3, g4⟩ := chain_laid (P := X.prog) (w := X.w) (h' := h'') (m0 := s1.heap.objs.size) (H0 := H1) (xs.zip ys) Ts' H1 [] (by rw [mk.len, List.length_zip, List.length_zip, e1, e2]) (fun _ _ => rfl) (I1.hok.kept keep) mk.nd
        (fun T z => ⟨(mk.new T z).1, I1.hok.fresh (mk.new T z).1⟩) (fun j T z => by
          obtain ⟨u, v, g1, g2⟩ := mk.pr j T z
          obtain ⟨f1, f2⟩ := List.getElem?_zip_eq_some.mp g1
          obtain ⟨x, hx, rx⟩ := vals_get rv f1
          obtain ⟨y, hy, ry⟩ := vals_get rv2 f2
          exact ⟨x, y, u, v, List.getElem?_zip_eq_some.mpr ⟨hx, hy⟩, rx, ry, g2⟩) q1
      have hle : s1.heap.objs.size ≤ h'.objs.size := by rw [hsz]; exact Nat.le_add_right _ _
      have hSn : H' h'.objs.size = none := by
        rw [g3 _ fun z => (mk.new _ z).2 rfl]
        exact I1.hok.fresh hle
      have I2 : Inv X pins σ (upd H' h'.objs.size (.lst (Ts'.map V.ref))) { s1 with heap := h'' } := by
        have lt : ∀ b ob, s1.heap.get? b = some ob → b < s1.heap.objs.size := fun b ob z => Heap.lt_size z
        have back : ∀ b, b < s1.heap.objs.size → upd H' h'.objs.size (.lst (Ts'.map V.ref)) b = H1 b := fun b z => by rw [upd_ne (Nat.ne_of_lt (Nat.lt_of_lt_of_le z hle))]; exact g1 b z
        refine I1.un (t' := s1.toks) ⟨fun b o z _ _ _ => keep b o z, fun b o z _ _ _ => ⟨o.slots, keep b o z⟩, fun b o z n _ => by rw [back b (lt b o z)]; exact n, fun b o z _ => ⟨o, keep b o z⟩, fun b xs z => by rw [back b (I1.hok.lt z)]; exact z, fun b o u z => by rw [back b (I1.hok.lt z)]; exact z, fun b ps z => ⟨#[], by rw [back b (I1.hok.lt z), z]; simp⟩⟩ fun b o z => ?_
        by_cases hb : b = h'.objs.size
        · subst hb
          rw [upd_same] at z
          cases z
          refine ⟨by rw [List.length_map, mk.len, List.length_zip]; omega, acc'.toList, c', ?_, by rw [hl]⟩
          rw [mk.acc_]
          exact vals_refsZ Ts'
        · rw [upd_ne hb] at z
          exact (g2 b o z).stay (fun _ _ _ r => r) (fun d r => by rw [upd_ne (ne_of_none r hSn)]; exact r) fun d xs r => by rw [upd_ne (ne_of_none r hSn)]; exact r
      exact ⟨.ref h'.objs.size, _, I2, rfl, by simpa using g4 _ hSn⟩
theorem pe_listZipK (K : PySem.W.Frag) {X : Cx} {e e2 : Expr} {ta : TA} {p p2 q pos : Pos} (hg : Gl X "list") (hm : X.mg "list" = none) (hg2 : Gl X "zip") (hm2 : X.mg "zip" = none) (ha : PA X [e, e2] ta) (hc : X.calm = true := by rfl)
    (hs : starEach [e, e2] X.env = (false, eval e X.env) :: starEach [e2] X.env := by rfl) (hpl : (backTo q (starEach [e2] X.env)).any (·.1) = false := by rfl)
    (hs2 : starEach [.Call (.Name "zip" p2) [e, e2] [] q] X.env = (false, eval (.Call (.Name "zip" p2) [e, e2] [] q) X.env) :: starEach [] X.env := by rfl) (h : X.K = K := by rfl) :
    PE X (.Call (.Name "list" p) [.Call (.Name "zip" p2) [e, e2] [] q] [] pos) (tListZip K ta) := h ▸ pe_listZip hg hm hg2 hm2 ha hc hs hpl hs2
theorem ip_ext {X : Cx} : PIp X .Add rExt2 := fun pins s σ H x y v u Q I rx ry h => iop_ext pins s σ H x y v u Q I rx ry h
section
variable {K : PySem.W.Frag} {A : Amb} {S : List SV} {k : KA} {ta : TA} {te : TE} {E : DE}
theorem chain_dat {R : List (Addr × Cell)} {Q : List V → Hp → Prop} : ∀ (ps : List (V × V)) (qs : List (PyData × PyData)) (acc : List V) (ds : List PyData) (F H : Hp), AtR K A R F H →
    Paired (fun p q => Dt K F p.1 q.1 ∧ Dt K F p.2 q.2) ps qs → DtAll K F acc ds → (∀ acc' F' H', Same F F' → AtR K A R F' H' → DtAll K F' acc' (ds ++ qs.map fun q => .tuple [q.1, q.2]) → Q acc' H') → zipChain Q ps acc H
  | [], [], acc, ds, F, H, a, _, hd, q => q acc F H (Same.refl F) a (by simpa using hd)
  | (x, y) :: ps, (d, e) :: qs, acc, ds, F, H, a, .cons hp hr, hd, q => fun T hT => by
    obtain ⟨F2, e2, a2, r2⟩ := pair2_new (F' := F) hT a hp.1 hp.2
    refine chain_dat ps qs (acc ++ [.ref T]) (ds ++ [.tuple [d, e]]) F2 _ a2 (Paired.mapP hr fun _ _ z => ⟨z.1.mono e2, z.2.mono e2⟩) ((hd.mono e2).append (.cons (show Dt K F2 (.ref T) (.tuple [d, e]) from r2) .nil)) fun acc' F' H' e3 a3 h3 => q acc' F' H' (e2.trans e3) a3 (by simpa using h3)
theorem zip_paired {F : Hp} : ∀ {xs ys : List V} {ds es : List PyData}, DtAll K F xs ds → DtAll K F ys es → Paired (fun p q => Dt K F p.1 q.1 ∧ Dt K F p.2 q.2) (xs.zip ys) (ds.zip es)
  | [], _, _, _, .nil, _ => .nil
  | _ :: _, [], _, _, .cons _ _, .nil => .nil
  | _ :: _, _ :: _, _, _, .cons a b, .cons c d => .cons ⟨a, c⟩ (zip_paired b d)
theorem wp_listZip (h : WpA K A ta S fun A1 ss => ∃ ds es, ss = [.dat (.list ds), .dat (.list es)] ∧ k A1 (.dat (.list (zipD ds es)))) : Wp K A (tListZip K ta) S k := fun R F σ H Q a sd q =>
  h R F σ H _ a sd fun A1 ss vs F1 H1 ⟨ds, es, hs, hk⟩ e1 a1 r1 => by
    subst hs
    obtain ⟨v, w, rfl, r2, r3⟩ := two_of r1
    obtain ⟨p, xs, rfl, h1, h2⟩ := sr_lst r2
    obtain ⟨p2, ys, rfl, h3, h4⟩ := sr_lst r3
    refine ⟨p, p2, xs, ys, rfl, .inl (.inl (a1.same _ _ h1)), .inl (.inl (a1.same _ _ h3)), ?_⟩
    refine chain_dat (R := R) _ _ [] [] F1 H1 a1 (zip_paired h2 h4) .nil fun acc' F' H' e2 a2 h5 l hl => ?_
    obtain ⟨a3, e3⟩ := a2.alloc (o := .lst acc') hl
    exact q A1 _ _ _ _ hk ((e1.trans e2).trans e3) a3 (.lst upd_same (h5.mono e3))
/-- xs += ys: one's own list gets longer -/
theorem go_augL {i : Nat} {p : Addr} (e : S[i]? = some (.ptr p)) (h : Wp K A te S fun A1 s => ∃ ds xs l', s = .dat (.list ds) ∧ Upd A1.cells p (.lst xs) (.lst (xs ++ ds.map .dat)) l' ∧ xs.length + ds.length ≤ sizeLine ∧ E.nx ⟨A1.I, l'⟩ S) : Go K A (tAug i te rExt2) S E := fun R F σ H D a sd o => by
  obtain ⟨v, h1, h2⟩ := sd.get e (by intro z; cases z)
  obtain rfl : v = .ref p := h2
  refine ⟨.ref p, h1, h R F σ H _ a sd fun A1 s w F1 H1 ⟨ds, xs, l', hs, hu, hz, hk⟩ e1 a1 r1 => ?_⟩
  subst hs
  obtain ⟨b, ys, rfl, h3, h4⟩ := sr_lst r1
  obtain ⟨us, h5, h6⟩ := a1.cell hu.mem
  refine ⟨p, b, us, ys, rfl, rfl, h5, a1.same _ _ h3, by rw [h6.length, h4.length]; exact hz, ?_⟩
  have es : σ.set i (some (.ref p)) = σ := by
    refine List.ext_getElem? fun j => ?_
    by_cases hj : i = j
    · subst hj
      rw [List.getElem?_set_self (List.getElem?_eq_some_iff.mp h1).1]
      exact h1.symm
    · rw [List.getElem?_set_ne hj]
  show D.nx (σ.set i (some (.ref p))) _
  rw [es]
  exact o.nx _ _ _ _ _ hk e1 (a1.put hu ⟨_, upd_same, papp h6 (dats_srs h4)⟩) (sd.mono e1)
end
end DL

/-! setdefault of dicts by int and text keys; range with a step. -/
namespace DL
open PySem L2 RZ PyProof.Rows
open Sem (wp)
open PySem.Spec
open PySem.W (AlikeAll)
section
variable {K : PySem.W.Frag} {A : Amb} {S : List SV} {k : KA} {td ty tx : TE} {ta : TA}
/-- d.setdefault(key, x), keys whole numbers or texts -/
theorem wp_dsetd (h : Wp K A td S fun A1 s => ∃ p kvs0, s = .ptr p ∧ (p, .dk kvs0) ∈ A1.cells ∧ Wp K A1 ty S fun A2 s2 => Wp K A2 tx S fun A3 s3 => ∃ kvs x, s2 = .dat (keyD x) ∧ (p, .dk kvs) ∈ A3.cells ∧ kvs.length < sizeLine ∧ (∀ v, lookS kvs x = some v → k A3 v) ∧
    (lookS kvs x = none → ∃ l', Upd A3.cells p (.dk kvs) (.dk (putS kvs x s3)) l' ∧ k ⟨A3.I, l'⟩ s3)) : Wp K A (tDSetd td ty tx) S k := fun R F σ H Q a sd q =>
  h R F σ H _ a sd fun A1 s v F1 H1 ⟨p, kvs0, hs, hp0, h1⟩ e1 a1 r1 => by
    subst hs
    obtain rfl : v = .ref p := r1
    obtain ⟨vs0, g1, _⟩ := a1.cell hp0
    refine ⟨p, rfl, .inl ⟨vs0, .inl g1⟩, h1 R F1 σ H1 _ a1 (sd.mono e1) fun A2 s2 y F2 H2 h2 e2 a2 r2 => h2 R F2 σ H2 _ a2 ((sd.mono e1).mono e2) fun A3 s3 z F3 H3 ⟨kvs, x, hs2, hp, hl, hq1, hq2⟩ e3 a3 r3 => ?_⟩
    subst hs2
    obtain rfl := keyD_v r2
    obtain ⟨vs, h3, h4⟩ := a3.cell hp
    refine ⟨vs, x, h3, rfl, by rw [h4.length]; exact hl, fun v hv => ?_, fun hn => ?_⟩
    · cases e : lookS kvs x with
      | none => rw [(kvr_look h4).2 e] at hv; cases hv
      | some s' =>
        obtain ⟨v', e2', r'⟩ := (kvr_look h4).1 s' e
        rw [hv] at e2'
        cases e2'
        exact q A3 s' v F3 H3 (hq1 s' e) ((e1.trans e2).trans e3) a3 r'
    · cases e : lookS kvs x with
      | some s' =>
        obtain ⟨v', e2', r'⟩ := (kvr_look h4).1 s' e
        rw [hn] at e2'
        cases e2'
      | none =>
        obtain ⟨l', hu, hk'⟩ := hq2 e
        exact q _ s3 z F3 _ hk' ((e1.trans e2).trans e3) (a3.put hu ⟨_, upd_same, kvr_put h4 r3⟩) r3
def crange (lo c : Int) (n : Nat) : List SV := (List.range n).map fun (i : Nat) => .dat (.int (lo + (i : Nat) * c))
theorem crange_get {lo c : Int} {n i : Nat} {s : SV} (h : (crange lo c n)[i]? = some s) : i < n ∧ s = .dat (.int (lo + (i : Nat) * c)) := by
  unfold crange at h
  rw [List.getElem?_map] at h
  by_cases hi : i < n
  · rw [List.getElem?_range hi] at h
    exact ⟨hi, (Option.some.inj h).symm⟩
  · rw [List.getElem?_eq_none (by rw [List.length_range]; omega)] at h
    cases h
theorem src_rngC {F : Hp} {lo c : Int} {n : Nat} : Src K F (Itc lo c n) (crange lo c n) := fun A F' H i e at' => by
  refine ⟨fun hi => by unfold crange at hi; rw [List.length_map, List.length_range] at hi; exact hi, fun s hs => ?_⟩
  obtain ⟨hi, rfl⟩ := crange_get hs
  refine ⟨hi, fun x H' y => ?_⟩
  obtain ⟨rfl, rfl⟩ := y
  exact ⟨F', Same.refl F', at', .int _⟩
theorem iw_rng3 {k : KS} (h : WpA K A ta S fun A1 ss => ∃ (i j c : Int) (n : Nat), ss = [.dat (.int i), .dat (.int j), .dat (.int c)] ∧ RgC i j c n ∧ k A1 (crange i c n)) : IW K A (iRng3 ta) S k := fun R F σ H Q a sd q =>
  h R F σ H _ a sd fun A1 ss vs F1 H1 ⟨i, j, c, n, hs, h1, hk⟩ e1 a1 r1 => by
    subst hs
    cases r1 with
    | cons q1 r2 =>
      cases r2 with
      | cons q2 r3 =>
        cases r3 with
        | cons q3 r4 =>
          cases r4
          obtain rfl := sr_int q1
          obtain rfl := sr_int q2
          obtain rfl := sr_int q3
          exact ⟨i, j, c, n, rfl, h1, q A1 _ F1 H1 _ hk e1 a1 src_rngC⟩
theorem rgC_two {m : Nat} (h : m ≤ 1000000) : RgC 0 (2 * (m : Int)) 2 m := by
  have hr : Builtin.Range.rangeSize 0 (2 * (m : Int)) 2 = m := by
    unfold Builtin.Range.rangeSize
    rw [if_pos (by decide)]
    by_cases hm : m = 0
    · subst hm; rfl
    · rw [if_pos (by omega)]
      omega
  refine ⟨by decide, by decide, ?_, hr⟩
  unfold Builtin.Range.small
  rw [hr]
  simp [Builtin.Range.rangeFitsLong]
  omega
/-- what is wanted behind a loop over a dict's keys: the dict is there again -/
def DE.unlock (E : DE) (p : Addr) (od : Obj) (vs : List (Key × V)) (kvs : List (Key × SV)) : DE :=
  ⟨fun A1 S1 => ∃ l', Upd A1.cells p (.fk od vs kvs) (.dk kvs) l' ∧ E.nx ⟨A1.I, l'⟩ S1, fun A1 S1 => ∃ l', Upd A1.cells p (.fk od vs kvs) (.dk kvs) l' ∧ E.bk ⟨A1.I, l'⟩ S1,
    fun A1 S1 => ∃ l', Upd A1.cells p (.fk od vs kvs) (.dk kvs) l' ∧ E.ct ⟨A1.I, l'⟩ S1, fun A1 s => ∃ l', Upd A1.cells p (.fk od vs kvs) (.dk kvs) l' ∧ E.rt ⟨A1.I, l'⟩ s⟩
theorem out_unlock {R : List (Addr × Cell)} {F : Hp} {D : Ends} {E : DE} {p : Addr} {od : Obj} {vs : List (Key × V)} {kvs : List (Key × SV)} (o : OutE K R F D E) :
    OutE K R F ⟨fun σ' H' => H' p = some (.frz od (.dK vs)) ∧ D.nx σ' (upd H' p (.dK vs)), fun v H' => H' p = some (.frz od (.dK vs)) ∧ D.rt v (upd H' p (.dK vs)), fun σ' H' => H' p = some (.frz od (.dK vs)) ∧ D.bk σ' (upd H' p (.dK vs)), fun σ' H' => H' p = some (.frz od (.dK vs)) ∧ D.ct σ' (upd H' p (.dK vs))⟩ (E.unlock p od vs kvs) where
  nx := fun A1 S1 F1 σ1 H1 ⟨l', hu, hk⟩ e1 a1 sd1 => by
    obtain ⟨h1, h2⟩ := a1.cell hu.mem
    exact ⟨h1, o.nx _ _ F1 σ1 _ hk e1 (a1.put hu ⟨vs, upd_same, h2⟩) sd1⟩
  bk := fun A1 S1 F1 σ1 H1 ⟨l', hu, hk⟩ e1 a1 sd1 => by
    obtain ⟨h1, h2⟩ := a1.cell hu.mem
    exact ⟨h1, o.bk _ _ F1 σ1 _ hk e1 (a1.put hu ⟨vs, upd_same, h2⟩) sd1⟩
  ct := fun A1 S1 F1 σ1 H1 ⟨l', hu, hk⟩ e1 a1 sd1 => by
    obtain ⟨h1, h2⟩ := a1.cell hu.mem
    exact ⟨h1, o.ct _ _ F1 σ1 _ hk e1 (a1.put hu ⟨vs, upd_same, h2⟩) sd1⟩
  rt := fun A1 s v F1 H1 ⟨l', hu, hk⟩ e1 a1 r1 => by
    obtain ⟨h1, h2⟩ := a1.cell hu.mem
    exact ⟨h1, o.rt _ s v F1 _ hk e1 (a1.put hu ⟨vs, upd_same, h2⟩) r1⟩
theorem key_dt (F : Hp) : ∀ k : Key, Dt K F (kV k) (keyD k)
  | .inl i => .int i
  | .inr x => .str x
/-- for k in d: the dict is locked the while -/
theorem go_forK {S : List SV} {E : DE} {g : TG} {tu : TS} {p : Addr} {kvs : List (Key × SV)} (hp : (p, .dk kvs) ∈ A.cells)
    (h : ∀ od vs, ∃ l1, Upd A.cells p (.dk kvs) (.fk od vs kvs) l1 ∧ Wp K ⟨A.I, l1⟩ td S fun A1 s => s = .ptr p ∧ ∃ J : Nat → KS, J 0 A1 S ∧ (∀ i A2 S2, J i A2 S2 → (p, .fk od vs kvs) ∈ A2.cells) ∧
      (∀ i kv A2 S2, kvs[i]? = some kv → J i A2 S2 → GW K g (.dat (keyD kv.1)) S2 A2 fun A3 S3 => Go K A3 tu S3 ((E.unlock p od vs kvs).loop (J (i + 1)))) ∧ ∀ A2 S2, J kvs.length A2 S2 → (E.unlock p od vs kvs).nx A2 S2) :
    Go K A (tLock (tFor (iKeys td) g tu)) S E := fun R F σ H D a sd o => by
  obtain ⟨vs, hH, hkv⟩ := a.cell hp
  refine ⟨p, .dK vs, hH, trivial, fun od => ?_⟩
  obtain ⟨l1, hu, hw⟩ := h od vs
  have o2 := out_unlock (p := p) (od := od) (vs := vs) (kvs := kvs) o
  have a0 : AtR K ⟨A.I, l1⟩ R F (upd H p (.frz od (.dK vs))) := a.put hu ⟨upd_same, hkv⟩
  refine hw R F σ _ _ a0 sd fun A1 s v F1 H1 ⟨hs, Jd, j0, jc, js, je⟩ e1 a1 r1 => ?_
  subst hs
  obtain rfl : v = .ref p := r1
  obtain ⟨g1, g2⟩ := a1.cell (jc 0 A1 _ j0)
  refine ⟨p, od, rfl, .inl ⟨vs, g1, ?_⟩⟩
  have hl : vs.length = kvs.length := Paired.length g2
  refine ⟨fun i m σ' H' => m = kvs.length - i ∧ i ≤ kvs.length ∧ ∃ A2 S2 F2, Jd i A2 S2 ∧ Same F1 F2 ∧ AtR K A2 R F2 H' ∧ SD K F2 σ' S2, ⟨_, rfl, Nat.zero_le _, A1, S, F1, j0, Same.refl F1, a1, sd.mono e1⟩, ?_⟩
  rintro i m σ2 H2 ⟨rfl, hi, A2, S2, F2, hj, e2, a2, sd2⟩
  obtain ⟨g3, g4⟩ := a2.cell (jc i A2 _ hj)
  by_cases hlt : i < kvs.length
  · refine .inr ⟨⟨g3, by omega⟩, fun σ' H' => ∃ A3 S3 F3, Jd (i + 1) A3 S3 ∧ Same F2 F3 ∧ AtR K A3 R F3 H' ∧ SD K F3 σ' S3, fun σ' H' ⟨A3, S3, F3, h3, e3, a3, sd3⟩ => ⟨kvs.length - (i + 1), by omega, rfl, hlt, A3, S3, F3, h3, e2.trans e3, a3, sd3⟩, fun x H' y => ?_⟩
    obtain ⟨rfl, kk, vv, hvs, rfl⟩ := y
    obtain ⟨kv, hkk, hr⟩ := pgetL g4 hvs
    have e9 : kk = kv.1 := hr.1
    subst e9
    refine js i kv A2 S2 hkk hj R F2 σ2 H' _ _ a2 sd2 (key_dt F2 kv.1) fun A4 S4 F4 σ4 H4 h4 e4 a4 sd4 => ?_
    exact h4 R F4 σ4 H4 _ a4 sd4 ⟨fun A5 S5 F5 σ5 H5 h5 e5 a5 sd5 => ⟨A5, S5, F5, h5, e4.trans e5, a5, sd5⟩, fun A5 S5 F5 σ5 H5 h5 e5 a5 sd5 => o2.nx A5 S5 F5 σ5 H5 h5 (((e1.trans e2).trans e4).trans e5) a5 sd5,
      fun A5 S5 F5 σ5 H5 h5 e5 a5 sd5 => ⟨A5, S5, F5, h5, e4.trans e5, a5, sd5⟩, o2.rt.mono ((e1.trans e2).trans e4)⟩
  · have ei : i = kvs.length := by omega
    subst ei
    exact .inl ⟨⟨g3, by omega⟩, o2.nx A2 S2 F2 σ2 H2 (je A2 S2 hj) (e1.trans e2) a2 sd2⟩
/-- d[k] of a dict that is walked -/
theorem wp_dgetF {S : List SV} (h : Wp K A td S fun A1 s => Wp K A1 ty S fun A2 s2 => ∃ p od vs kvs x v, s = .ptr p ∧ s2 = .dat (keyD x) ∧ (p, .fk od vs kvs) ∈ A2.cells ∧ lookS kvs x = some v ∧ k A2 v) : Wp K A (tDGet td ty) S k := fun R F σ H Q a sd q =>
  h R F σ H _ a sd fun A1 s v F1 H1 h1 e1 a1 r1 => h1 R F1 σ H1 _ a1 (sd.mono e1) fun A2 s2 w F2 H2 ⟨p, od, vs, kvs, x, z, hs, hs2, hp, hz, hk⟩ e2 a2 r2 => by
    subst hs; subst hs2
    obtain rfl : v = .ref p := r1
    obtain rfl := keyD_v r2
    obtain ⟨h3, h4⟩ := a2.cell hp
    obtain ⟨y, h5, h6⟩ := (kvr_look h4).1 z hz
    exact ⟨p, y, rfl, .inl ⟨vs, x, .inr ⟨od, h3⟩, rfl, h5.symm⟩, q A2 _ _ F2 H2 hk (e1.trans e2) a2 h6⟩
/-! ### walks of what is a list or a tuple -/
def iOr (w1 w2 : TI) : TI := fun σ H R => w1 σ H R ∨ w2 σ H R
theorem pi_or {X : Cx} {tg l : Expr} {w1 w2 : TI} (h1 : PI X tg l w1) (h2 : PI X tg l w2) : PI X tg l (iOr w1 w2) := ⟨fun pins s σ H R I h => h.elim (h1.run pins s σ H R I) (h2.run pins s σ H R I)⟩
abbrev iSeq (K : PySem.W.Frag) (tl : TE) : TI := iOr (iList K tl) (iTup K tl)
theorem pi_seqK {tg l : Expr} {tl : TE} (K : PySem.W.Frag) {X : Cx} (hl : PE X l tl) (h : X.K = K := by rfl) : PI X tg l (iSeq K tl) := pi_or (pi_listK K hl h) (pi_tupK K hl h)
theorem iw_seq {S : List SV} {tl : TE} {k : KS} {d : PyData} {ds : List PyData} (hd : d = .list ds ∨ d = .tuple ds) (h : Wp K A tl S fun A1 s => s = .dat d ∧ k A1 (ds.map .dat)) : IW K A (iSeq K tl) S k := fun R F σ H Q a sd q => by
  rcases hd with rfl | rfl
  · exact .inl (iw_list (h.imp fun _ _ z => ⟨ds, z.1, z.2⟩) R F σ H Q a sd q)
  · exact .inr (iw_tup (h.imp fun _ _ z => ⟨ds, z.1, z.2⟩) R F σ H Q a sd q)
/-! ### list * int, int(truth) -/
theorem DtAll.rep {F : Hp} {xs : List V} {ds : List PyData} (h : DtAll K F xs ds) : ∀ n, DtAll K F (List.replicate n xs).flatten (List.replicate n ds).flatten
  | 0 => .nil
  | n + 1 => by
    rw [List.replicate_succ, List.replicate_succ, List.flatten_cons, List.flatten_cons]
    exact h.append (DtAll.rep h n)
theorem rw_rep {ds : List PyData} {n : Int} {k : KA} (h0 : -(2 ^ 63) ≤ n) (h1 : n < 2 ^ 63) (hl : ds.length * n.toNat ≤ sizeLine) (h : k A (.dat (.list (List.replicate n.toNat ds).flatten))) : RW K rRep (.dat (.list ds)) (.dat (.int n)) A k := fun R F H v w Q a r1 r2 q => by
  obtain ⟨p, xs, rfl, h3, h4⟩ := sr_lst r1
  obtain rfl := sr_int r2
  refine ⟨p, n, xs, rfl, rfl, a.same _ _ h3, h0, h1, by rw [h4.length]; exact hl, fun m hm => ?_⟩
  obtain ⟨a2, e2⟩ := a.alloc (o := .lst (List.replicate n.toNat xs).flatten) hm
  exact q A _ _ _ _ h e2 a2 (.lst upd_same ((h4.mono e2).rep _))
def rIntB : List V → Hp → VK → Prop := fun xs H Q => (∃ i, xs = [.int i] ∧ Q (.int i) H) ∨ ∃ k, xs = [.bl k] ∧ Q (.int (if k then 1 else 0)) H
theorem call_intB {X : Cx} : CallR X (.type "int") rIntB := call_int1
theorem cw_intB {b : Bool} {k : KA} (h : k A (.dat (.int (if b then 1 else 0)))) : CW K rIntB [.dat (.bool b)] A k := fun R F H vs Q at_ r q => by
  obtain ⟨v, rfl, r1⟩ := one_of r
  obtain rfl := sr_bl r1
  exact .inr ⟨b, rfl, q _ _ _ _ _ h (Same.refl _) at_ (.int _)⟩
/-! ### min of a tuple of alike data -/
theorem min_tup_at {prog : Program} {w : World} {A : Around} {E : Value → Shared → Prop} {s : Shared} {l : Addr} {vs : Array Value} {x : PyData} {xs : List PyData} {as : List Addr} {Q : Value → Shared → Prop} (hh : A.handled = none) (hl : s.heap.IsTuple l vs) (hr : ReadsAll s.heap vs.toList (x :: xs) as) (ha : AlikeAll (x :: xs)) (hu : A.units + 1 + PyData.depthAll (x :: xs) < cLine)
    (h : ∀ (i : Nat) v h' tk, vs[i]? = some v → (x :: xs)[i]? = some (PySem.W.minD x xs) → (∀ b o, s.heap.get? b = some o → h'.get? b = some o) → Q v { s with heap := h', toks := tk }) :
    wpAny (model prog w) A (call (.builtin "min") [.ref l]) Q E s := by
  have hn : vs.size = xs.length + 1 := PySem.W.readsAll_len hr
  refine call_min_walkH (PySem.W.iter_tupleW (A := A.in1) hh hl fun s₂ e W st hfp hw hk => ?_)
  refine ⟨_, _, _, _, _, _, _, s.heap, _, rfl, W, st, hfp, by omega, hw, hk, PySem.W.cmpIn_lt (A := A.in1) hr ha (by show A.units + 1 + _ < _; exact hu), fun v s' hP m => ?_⟩
  obtain ⟨h', tk, rfl, hk'⟩ := PySem.W.moved_old e rfl m
  have e1 : vs.size - 1 = xs.length := by omega
  rw [e1] at hP
  obtain ⟨e0, e2⟩ := PySem.W.argBest_fold PySem.W.dataLt PyData.none x xs xs.length (Nat.le_refl _)
  rw [List.take_length] at e2
  refine h _ v h' tk hP ?_ hk'
  have hlt : argBest (fun i j => PySem.W.dataLt ((x :: xs).getD i .none) ((x :: xs).getD j .none)) xs.length < (x :: xs).length := by rw [List.length_cons]; omega
  rw [List.getD_eq_getElem?_getD, List.getElem?_eq_getElem hlt] at e2
  rw [List.getElem?_eq_getElem hlt]
  exact congrArg some e2
def rMinT (K : PySem.W.Frag) : List V → Hp → VK → Prop := fun vs H Q => ∃ (a : Addr) (xs : List V) (x : PyData) (ds : List PyData), vs = [V.ref a] ∧ SqT K H a xs ∧ DpAll K H xs (x :: ds) ∧ AlikeAll (x :: ds) ∧ PyData.depthAll (x :: ds) ≤ 60 ∧
  ∀ (i : Nat) v, xs[i]? = some v → (x :: ds)[i]? = some (PySem.W.minD x ds) → Q v H
theorem cr_minT {X : Cx} (hc : X.calm = true) (hu : X.A.units + 65 < cLine) : CallR X (.builtin "min") (rMinT X.K) := by
  intro pins s σ H vs us Q I r h
  obtain ⟨a, xs, x, ds, rfl, hs, hd, hal, hdep, q⟩ := h
  obtain ⟨its, rv, hl, hz⟩ := I.tuple hs
  rw [Vals.ref1 r]
  obtain ⟨as, hr⟩ := Dp.readsAll I _ _ _ hd rv
  refine min_tup_at (I.ok.hd hc) (show s.heap.IsTuple a its.toArray from hl) (by simpa using hr) hal (by omega) fun i u h' tk hi hm hk => ?_
  have hi2 : its[i]? = some u := by simpa using hi
  have hlt : i < xs.length := by
    rw [DpAll_length hd]
    exact (List.getElem?_eq_some_iff.mp hm).1
  obtain ⟨u2, hu2, ru⟩ := rv.get (List.getElem?_eq_getElem hlt)
  rw [hi2] at hu2
  cases hu2
  exact ⟨_, H, I.kept hk, ru, q i _ (List.getElem?_eq_getElem hlt) hm⟩
theorem cr_minTK (K : PySem.W.Frag) {X : Cx} (hc : X.calm = true) (hu : X.A.units + 65 < cLine) (h : X.K = K := by rfl) : CallR X (.builtin "min") (rMinT K) := h ▸ cr_minT hc hu
theorem cw_minT {x : PyData} {ds : List PyData} {k : KA} (hal : AlikeAll (x :: ds)) (hdep : PyData.depthAll (x :: ds) ≤ 60) (h : k A (.dat (PySem.W.minD x ds))) : CW K (rMinT K) [.dat (.tuple (x :: ds))] A k := fun R F H vs Q a r q => by
  obtain ⟨v, rfl, r1⟩ := one_of r
  obtain ⟨p, xs, rfl, h1, h2⟩ := sr_tup r1
  refine ⟨p, xs, x, ds, rfl, same_t a.same h1, dpall_of (h2.mono a.same) (fun d hd => nd_alike d (hal.1 d hd d hd)), hal, hdep, fun i v hv hm => ?_⟩
  obtain ⟨d, hd1, hd2⟩ := h2.get hv
  rw [hm] at hd1
  cases hd1
  exact q _ _ _ _ _ h (Same.refl F) a hd2
end
end DL

/-! Defs that show things (repr): their promise holds where nothing is being shown. -/
namespace DL
open PySem L2 RZ PyProof.Rows
/-- a def's promise, where nothing is being shown -/
structure FnOkG (P : Program) (w : World) (K : PySem.W.Frag) (mg : Str → Option Value) (base : Heap) (k : Nat) (f : Addr) (fd : FuncData) (ps : List Str) (sp : Sp) : Prop where
  many : ∀ vs H Q E, sp vs H Q E → vs.length = ps.length
  goes : ∀ (A : Around) (outer : List Env) (s : Shared) (H : Hp) (args : Args) (us : List Value) (vs : List V) (Q : VK) (E : XK), A.guards = some [] → Room k A → Env0 P w K mg base A outer s H → BindsTo s fd args (ps.zip us) → Vals vs us → sp vs H Q E →
    codeAny (model P w) A (.call (.ref f) args) (CR CX0 outer P w H s Q E) s
section
variable {P : Program} {w : World} {K : PySem.W.Frag} {mg : Str → Option Value} {base : Heap}
theorem fun_okG {x qual : Str} {st : Stmt} {f : Addr} {fd : FuncData} {N ps : List Str} {k : Nat} {sp : Sp} (F : Fun K x qual st f fd) (Sc : FnScope N ps (defScope st)) (many : ∀ vs H Q E, sp vs H Q E → vs.length = ps.length)
    (hbody : ∀ (cdv : Value) (A : Around) (outer : List Env) (s : Shared) (H : Hp) (vs : List V) (Q : VK) (E : XK), A.guards = some [] → Room k (A.deeper (envOfC qual (defScope st) s.heap.objs.size f cdv)) → sp vs H Q E →
      ∃ t, PSs (cxOf CX0 P w K mg base N qual (defScope st) f cdv A outer s H E).nox (defBody st) t ∧ t { nx := fun _ H' => Q .non H', rt := Q } (L2.start N vs) H) : FnOkG P w K mg base (k + 1) f fd ps sp := by
  obtain ⟨oc, od, kV, doc, pm, an, cdv, ct, osl, e, look, code⟩ := F.ex
  subst e
  constructor
  · exact many
  intro A outer s H args us vs Q E hg hr env bt rel want
  have inK := env.mod.kin.keeps fun b o q => (env.bs b o q).1
  have free := env.mod.nolimit.keeps fun b o q => (env.bs b o q).1
  have kinds : ∀ y ∈ ps.zip us, (defScope st).names.lookup y.1 = some .local ∨ ((defScope st).names.lookup y.1 = some .cell ∧ ((cellsFrom (s.heap.objs.size + 1) (defScope st).names []).lookup y.1).isSome = true) := by
    rintro ⟨n, v⟩ hy
    have := Sc.par n (List.of_mem_zip hy).1
    exact this.imp id fun q => ⟨q, PySem.W.cellsFrom_some _ _ _ (.inl q)⟩
  refine codeAny_call_function hr.depth (inK _ _ look) rfl Sc.co Sc.gen rfl (PySem.W.codeRec_of inK code) (bt _ _ _ _ (wpAny_newFunctionEnv_cells Sc.kind kinds fun en he s1 inn => ?_))
  subst he
  refine ⟨free.keeps inn.toInCall.keep, codeAny_func ?_⟩
  obtain ⟨t, ht, run⟩ := hbody cdv A outer s H vs Q E hg (hr.deeper _) want
  have inv := inv_start (CX := CX0) (E := E) Sc hr.hd env (many _ _ _ _ want) rel inn
  refine wpAny_mono (ht.nox.run [] s1 (L2.start N vs) H _ inv run) (fun fl s' ends => ?_) fun _ _ z => z
  match fl, ends with
  | .ret u, ⟨v, σ', H', J, rv, q⟩ => exact ⟨v, H', J.os, J.bare, J.base, J.hok, rv, q⟩
  | .next, ⟨σ', H', J, q⟩ => exact ⟨.non, H', J.os, J.bare, J.base, J.hok, rfl, q⟩
  | .brk, ⟨_, _, _, q⟩ => exact q.elim
  | .cont, ⟨_, _, _, q⟩ => exact q.elim
theorem fn_goG {x qual : Str} {st : Stmt} {f : Addr} {fd : FuncData} {N ps : List Str} {n : Nat} {W : List SV → Amb → KA → Prop} (F : Fun K x qual st f fd) (Sc : FnScope N ps (defScope st))
    (len : ∀ ss A k, W ss A k → ss.length = ps.length)
    (hbody : ∀ (cdv : Value) (A : Around) (outer : List Env) (s : Shared) (H : Hp) (E : XK), A.guards = some [] → Room n (A.deeper (PyProof.Rows.envOfC qual (defScope st) s.heap.objs.size f cdv)) →
      ∃ t, PSs (cxOf CX0 P w K mg base N qual (defScope st) f cdv A outer s H E).nox (defBody st) t ∧ ∀ ss A k, W ss A k → Go K A t (ss ++ List.replicate (N.length - ss.length) .no) ⟨fun A1 _ => k A1 (.dat .none), fun _ _ => False, fun _ _ => False, k⟩) :
    FnOkG P w K mg base (n + 1) f fd ps (spW K W) := by
  refine fun_okG F Sc (fun vs H Q E h => ?_) (fun cdv A outer s H vs Q E hg hr h => ?_)
  · obtain ⟨B, R, G, ss, k, a, r, hw, q⟩ := h
    rw [r.length]
    exact len ss B k hw
  · obtain ⟨B, R, G, ss, k, a, r, hw, q⟩ := h
    obtain ⟨t, ht, go⟩ := hbody cdv A outer s H E hg hr
    refine ⟨t, ht, go ss B k hw R G _ H _ a (SD.start N r) ⟨fun A1 S1 F1 σ1 H1 h1 e1 a1 _ => q A1 _ _ F1 H1 h1 e1 a1 .non, fun A1 S1 F1 σ1 H1 h1 => h1.elim, fun A1 S1 F1 σ1 H1 h1 => h1.elim, q⟩⟩
end
section
variable {X : Cx} {k : Nat} {f : Addr} {fd : FuncData} {ps : List Str} {sp : Sp} {x : Str} {p pos : Pos} {e : Expr} {es : List Expr} {t : TA}
theorem pe_callG (F : FnOkG X.prog X.w X.K X.mg X.base k f fd ps sp) (hgd : X.A.guards = some []) (hr : Room k X.A) (hg : Gl X x) (hm : X.mg x = some (.ref f)) (hk : PySem.W.keepIn X.K (.ref f) = true) (hb : Binds X.K fd ps [])
    (ha : PA X (e :: es) t) (hdb : (x == ("__debug__" : Str)) = false := by decide) (he : starEach (e :: es) X.env = (false, eval e X.env) :: starEach es X.env := by rfl) (hpl : (backTo pos (starEach es X.env)).any (·.1) = false := by rfl) :
    PE X (.Call (.Name x p) (e :: es) [] pos) (tCall sp [] E0 t) := by
  constructor
  intro pins s σ H Q I h
  refine wpAny_Call_Name_kw (ld_glob I hg hm (PySem.W.callWith_K (h₀ := X.base) I.ok.mod.kin hk (thn (ha.run pos pins s σ H _ I h) fun us s1 z => ?_) he hpl) hdb)
  obtain ⟨vs, H1, I1, r, q⟩ := z
  refine ⟨I1.kIn, wpAny_call ?_⟩
  have len := F.many _ _ _ _ q
  rw [List.append_nil] at len q
  have hl : (us ++ []).length = ps.length := by rw [List.append_nil, ← r.length]; exact len
  have bt := hb s1 us I1.kIn hl
  rw [List.append_nil] at bt
  refine codeAny_mono (F.goes X.A X.stack s1 H1 ⟨us, []⟩ us vs Q E0 hgd hr I1.env0 bt r q) fun z s' hz => ?_
  match z, hz with
  | .ok (.ret u), hz => exact I1.after hz
  | .ok .next, hz => exact hz.elim
  | .ok .brk, hz => exact hz.elim
  | .ok .cont, hz => exact hz.elim
  | .error _, hz => exact hz.elim
end
end DL

namespace Q25
open PySem L2 DL
def topS (i : Nat) : Stmt := PySem.Challenge.pw_lothouse_k25_whole_borders_moved_and_par.main.body.getD i (.Pass ⟨0, 0, 0, 0⟩)
abbrev NN_going : List Str := ["side", "begin", "end"]
abbrev s_going : Stmt := topS 4
theorem sc_going : FnScope NN_going ["side"] (defScope s_going) := ⟨rfl, rfl, rfl, by decide +kernel, rfl, by decide +kernel, by decide +kernel⟩
abbrev NN_left_of : List Str := ["side", "i", "j", "way"]
abbrev s_left_of : Stmt := topS 5
theorem sc_left_of : FnScope NN_left_of ["side"] (defScope s_left_of) := ⟨rfl, rfl, rfl, by decide +kernel, rfl, by decide +kernel, by decide +kernel⟩
abbrev NN_right_of : List Str := ["side", "begin", "end"]
abbrev s_right_of : Stmt := topS 6
theorem sc_right_of : FnScope NN_right_of ["side"] (defScope s_right_of) := ⟨rfl, rfl, rfl, by decide +kernel, rfl, by decide +kernel, by decide +kernel⟩
abbrev NN_round_cell : List Str := ["cell", "i", "j", "corners", "at"]
abbrev s_round_cell : Stmt := topS 7
theorem sc_round_cell : FnScope NN_round_cell ["cell"] (defScope s_round_cell) := ⟨rfl, rfl, rfl, by decide +kernel, rfl, by decide +kernel, by decide +kernel⟩
abbrev NN_sides : List Str := ["cells", "cell", "side"]
abbrev s_sides : Stmt := topS 8
theorem sc_sides : FnScope NN_sides ["cells"] (defScope s_sides) := ⟨rfl, rfl, rfl, by decide +kernel, rfl, by decide +kernel, by decide +kernel⟩
abbrev NN_next_side : List Str := ["left", "side", "some", "east", "north", "i", "j"]
abbrev s_next_side : Stmt := topS 9
theorem sc_next_side : FnScope NN_next_side ["left", "side"] (defScope s_next_side) := ⟨rfl, rfl, rfl, by decide +kernel, rfl, by decide +kernel, by decide +kernel⟩
abbrev NN_turned_at : List Str := ["some", "found", "first", "at"]
abbrev s_turned_at : Stmt := topS 10
theorem sc_turned_at : FnScope NN_turned_at ["some"] (defScope s_turned_at) := ⟨rfl, rfl, rfl, by decide +kernel, rfl, by decide +kernel, by decide +kernel⟩
abbrev NN_rings : List Str := ["cells", "left", "by_corner", "found", "side", "gone", "some"]
abbrev s_rings : Stmt := topS 11
theorem sc_rings : FnScope NN_rings ["cells"] (defScope s_rings) := ⟨rfl, rfl, rfl, by decide +kernel, rfl, by decide +kernel, by decide +kernel⟩
abbrev NN_round_of : List Str := ["cell", "i", "j"]
abbrev s_round_of : Stmt := topS 16
theorem sc_round_of : FnScope NN_round_of ["cell"] (defScope s_round_of) := ⟨rfl, rfl, rfl, by decide +kernel, rfl, by decide +kernel, by decide +kernel⟩
abbrev NN_piece_of : List Str := ["cells", "first", "found", "waiting", "other"]
abbrev s_piece_of : Stmt := topS 17
theorem sc_piece_of : FnScope NN_piece_of ["cells", "first"] (defScope s_piece_of) := ⟨rfl, rfl, rfl, by decide +kernel, rfl, by decide +kernel, by decide +kernel⟩
abbrev NN_pieces : List Str := ["cells", "found", "left", "one", "cell"]
abbrev s_pieces : Stmt := topS 18
theorem sc_pieces : FnScope NN_pieces ["cells"] (defScope s_pieces) := ⟨rfl, rfl, rfl, by decide +kernel, rfl, by decide +kernel, by decide +kernel⟩
abbrev NN__law_begun : List Str := ["script"]
abbrev s__law_begun : Stmt := topS 20
theorem sc__law_begun : FnScope NN__law_begun ["script"] (defScope s__law_begun) := ⟨rfl, rfl, rfl, by decide +kernel, rfl, by decide +kernel, by decide +kernel⟩
abbrev NN__law_take : List Str := ["draw", "many", "great", "found", "turn", "cell"]
abbrev s__law_take : Stmt := topS 21
theorem sc__law_take : FnScope NN__law_take ["draw", "many"] (defScope s__law_take) := ⟨rfl, rfl, rfl, by decide +kernel, rfl, by decide +kernel, by decide +kernel⟩
abbrev NN__law_pick : List Str := ["draw", "some"]
abbrev s__law_pick : Stmt := topS 22
theorem sc__law_pick : FnScope NN__law_pick ["draw", "some"] (defScope s__law_pick) := ⟨rfl, rfl, rfl, by decide +kernel, rfl, by decide +kernel, by decide +kernel⟩
abbrev NN__law_box : List Str := ["draw", "wide", "high", "found", "i", "j"]
abbrev s__law_box : Stmt := topS 23
theorem sc__law_box : FnScope NN__law_box ["draw", "wide", "high"] (defScope s__law_box) := ⟨rfl, rfl, rfl, by decide +kernel, rfl, by decide +kernel, by decide +kernel⟩
abbrev NN__law_kept : List Str := ["draw", "way", "wide", "high", "cell", "i", "j"]
abbrev s__law_kept : Stmt := topS 24
theorem sc__law_kept : FnScope NN__law_kept ["draw", "way", "wide", "high", "cell"] (defScope s__law_kept) := ⟨rfl, rfl, rfl, by decide +kernel, rfl, by decide +kernel, by decide +kernel⟩
abbrev NN__law_region : List Str := ["draw", "wide", "high", "box", "way", "found", "cell"]
abbrev s__law_region : Stmt := topS 25
theorem sc__law_region : FnScope NN__law_region ["draw", "wide", "high"] (defScope s__law_region) := ⟨rfl, rfl, rfl, by decide +kernel, rfl, by decide +kernel, by decide +kernel⟩
abbrev NN__law_size : List Str := ["draw"]
abbrev s__law_size : Stmt := topS 26
theorem sc__law_size : FnScope NN__law_size ["draw"] (defScope s__law_size) := ⟨rfl, rfl, rfl, by decide +kernel, rfl, by decide +kernel, by decide +kernel⟩
abbrev NN_steps_to : List Str := ["begin", "end", "east", "north", "many", "corners", "at"]
abbrev s_steps_to : Stmt := topS 12
theorem sc_steps_to : FnScope NN_steps_to ["begin", "end"] (defScope s_steps_to) := ⟨rfl, rfl, rfl, by decide +kernel, rfl, by decide +kernel, by decide +kernel⟩
abbrev NN_ring_sides : List Str := ["ring", "found", "at", "corner"]
abbrev s_ring_sides : Stmt := topS 13
theorem sc_ring_sides : FnScope NN_ring_sides ["ring"] (defScope s_ring_sides) := ⟨rfl, rfl, rfl, by decide +kernel, rfl, by decide +kernel, by decide +kernel⟩
abbrev NN__law_moved : List Str := ["corner", "way", "size", "i", "j", "wide", "high"]
abbrev s__law_moved : Stmt := topS 27
theorem sc__law_moved : FnScope NN__law_moved ["corner", "way", "size"] (defScope s__law_moved) := ⟨rfl, rfl, rfl, by decide +kernel, rfl, by decide +kernel, by decide +kernel⟩
abbrev NN__law_cell_moved : List Str := ["cell", "way", "size", "i", "j", "corners", "corner"]
abbrev s__law_cell_moved : Stmt := topS 28
theorem sc__law_cell_moved : FnScope NN__law_cell_moved ["cell", "way", "size"] (defScope s__law_cell_moved) := ⟨rfl, rfl, rfl, by decide +kernel, rfl, by decide +kernel, by decide +kernel⟩
abbrev NN__law_as_sets : List Str := ["region", "loop"]
abbrev s__law_as_sets : Stmt := topS 29
theorem sc__law_as_sets : FnScope NN__law_as_sets ["region"] (defScope s__law_as_sets) := ⟨rfl, rfl, rfl, by decide +kernel, rfl, by decide +kernel, by decide +kernel⟩
abbrev NN__law_goes_with : List Str := ["region", "way", "size", "other", "due", "loop", "some", "begin", "end", "cell"]
abbrev s__law_goes_with : Stmt := topS 30
theorem sc__law_goes_with : FnScope NN__law_goes_with ["region", "way", "size"] (defScope s__law_goes_with) := ⟨rfl, rfl, rfl, by decide +kernel, rfl, by decide +kernel, by decide +kernel⟩
abbrev NN_between : List Str := ["one", "other", "side"]
abbrev s_between : Stmt := topS 14
theorem sc_between : FnScope NN_between ["one", "other"] (defScope s_between) := ⟨rfl, rfl, rfl, by decide +kernel, rfl, by decide +kernel, by decide +kernel⟩
abbrev NN__law_parted : List Str := ["draw", "region", "marks", "first", "last", "every", "cell", "k"]
abbrev s__law_parted : Stmt := topS 31
theorem sc__law_parted : FnScope NN__law_parted ["draw", "region"] (defScope s__law_parted) := ⟨rfl, rfl, rfl, by decide +kernel, rfl, by decide +kernel, by decide +kernel⟩
abbrev NN_law : List Str := ["script", "draw", "turn", "wide", "high", "region", "together", "piece", "way"]
abbrev s_law : Stmt := topS 32
theorem sc_law : FnScope NN_law ["script"] (defScope s_law) := ⟨rfl, rfl, rfl, by decide +kernel, rfl, by decide +kernel, by decide +kernel⟩

/-! ### the data -/
abbrev Cl := Int × Int
abbrev Sd := Cl × Cl
def cD (c : Cl) : PyData := .tuple [.int c.1, .int c.2]
def sD (s : Sd) : PyData := .tuple [cD s.1, cD s.2]
def tD (t : Cl × Cl × Cl) : PyData := .tuple [cD t.1, cD t.2.1, cD t.2.2]
theorem cD_plain (c : Cl) : plainD (cD c) = true := by simp [cD, plainD, plainA]
theorem cD_inj (a b : Cl) (h : cD a = cD b) : a = b := by
  simp only [cD, PyData.tuple.injEq, List.cons.injEq, PyData.int.injEq, and_true] at h
  exact Prod.ext h.1 h.2
theorem sD_plain (s : Sd) : plainD (sD s) = true := by simp [sD, plainD, plainA, cD_plain]
theorem sD_inj (a b : Sd) (h : sD a = sD b) : a = b := by
  simp only [sD, PyData.tuple.injEq, List.cons.injEq, and_true] at h
  exact Prod.ext (cD_inj _ _ h.1) (cD_inj _ _ h.2)
theorem cD_depth (c : Cl) : (cD c).depth ≤ 1 := by simp [cD, PyData.depth, PyData.depthAll]
theorem sD_depth (s : Sd) : (sD s).depth ≤ 2 := by
  have h1 := cD_depth s.1
  have h2 := cD_depth s.2
  simp only [sD, PyData.depth, PyData.depthAll]
  omega
theorem cD_shaped (c : Cl) : SeqAt.shaped (cD c) = true := shaped_plain (cD_plain c) (by have := cD_depth c; omega)
theorem sD_shaped (c : Sd) : SeqAt.shaped (sD c) = true := shaped_plain (sD_plain c) (by have := sD_depth c; omega)
theorem depthAll_map {α : Type} {f : α → PyData} {n : Nat} (h : ∀ a, (f a).depth ≤ n) (xs : List α) : PyData.depthAll (xs.map f) ≤ n := depthAll_le fun x hx => by
  obtain ⟨c, _, rfl⟩ := List.mem_map.mp hx
  exact h c
theorem cells_shaped (cs : List Cl) : SeqAt.shaped (.tuple (cs.map cD)) = true := shaped_plain (by simp only [plainD]; exact plainA_map cD_plain cs) (by
  have h := depthAll_map cD_depth cs
  simp only [PyData.depth]
  omega)
theorem cellsL_shaped (cs : List Cl) : SeqAt.shaped (.list (cs.map cD)) = true := shaped_plain (by simp only [plainD]; exact plainA_map cD_plain cs) (by
  have h := depthAll_map cD_depth cs
  simp only [PyData.depth]
  omega)
theorem sz {n : Nat} (h : n ≤ 100000) : n ≤ sizeLine := Nat.le_trans h (by decide)
theorem szl {n : Nat} (h : n < 100000) : n < sizeLine := Nat.lt_of_lt_of_le h (by decide)
theorem in_cells (cs : List Cl) (c : Cl) : (cs.map cD).any (fun z => PyData.eqv z (cD c)) = decide (c ∈ cs) := by rw [any_enc cD_plain cD_inj]; congr
theorem eq_cell (a b : Cl) : PyData.eqv (cD a) (cD b) = decide (a = b) := eqv_enc cD_plain cD_inj a b
theorem eq_int (a b : Int) : PyData.eqv (.int a) (.int b) = decide (a = b) := by
  simp only [PyData.eqv]
  by_cases h : a = b <;> simp [h]
theorem sides_alike (l : List Sd) : PySem.W.AllAlike (l.map sD) := PySem.W.AllAlike.of fun a b => by simp [sD, cD, PySem.W.alike, PySem.W.alikeAll]
theorem sides_sort (l : List Sd) : PySem.W.Sortable (l.map sD) := PySem.W.Sortable.tuples fun a => ⟨_, _, rfl⟩
theorem sides_depth (l : List Sd) : ∀ d ∈ l.map sD, d.depth ≤ 60 := fun d hd => by
  obtain ⟨s, _, rfl⟩ := List.mem_map.mp hd
  have := sD_depth s
  omega
theorem sides_plain (l : List Sd) : plainA (l.map sD) = true := plainA_map sD_plain l
/-! ### the program -/
def going (s : Sd) : Cl := (s.2.1 - s.1.1, s.2.2 - s.1.2)
def leftOf (s : Sd) : Cl := if going s = (1, 0) then s.1 else if going s = (0, 1) then (s.1.1 - 1, s.1.2) else if going s = (-1, 0) then (s.1.1 - 1, s.1.2 - 1) else (s.1.1, s.1.2 - 1)
def rightOf (s : Sd) : Cl := leftOf (s.2, s.1)
def roundCell (c : Cl) : List Sd := [((c.1, c.2 + 1), (c.1, c.2)), ((c.1, c.2), (c.1 + 1, c.2)), ((c.1 + 1, c.2), (c.1 + 1, c.2 + 1)), ((c.1 + 1, c.2 + 1), (c.1, c.2 + 1))]
def presides (cs : List Cl) : List Sd := cs.flatMap fun c => (roundCell c).filter fun s => decide (¬ rightOf s ∈ cs)
def sidesD (cs : List Cl) : List PyData := dsort ((presides cs).map sD)

/-! ### the draws -/
abbrev kG : Key := .inr "great"
abbrev kA : Key := .inr "at"
abbrev kR : Key := .inr "rest"
abbrev kT : Key := .inr "turn"
abbrev kM : Key := .inr "more"
theorem kGA : ¬ kG = kA := by decide +kernel
theorem kGR : ¬ kG = kR := by decide +kernel
theorem kGT : ¬ kG = kT := by decide +kernel
theorem kGM : ¬ kG = kM := by decide +kernel
theorem kAR : ¬ kA = kR := by decide +kernel
theorem kAT : ¬ kA = kT := by decide +kernel
theorem kAM : ¬ kA = kM := by decide +kernel
theorem kRT : ¬ kR = kT := by decide +kernel
theorem kRM : ¬ kR = kM := by decide +kernel
theorem kTM : ¬ kT = kM := by decide +kernel
def drawDK (q : Addr) (a r t m : Int) : List (Key × SV) := [(kG, .ptr q), (kA, .dat (.int a)), (kR, .dat (.int r)), (kT, .dat (.int t)), (kM, .dat (.int m))]
section
variable {q : Addr} {a r t m z : Int}
theorem look_G : lookS (drawDK q a r t m) kG = some (.ptr q) := look_hit
theorem look_A : lookS (drawDK q a r t m) kA = some (.dat (.int a)) := (look_miss kGA).trans look_hit
theorem look_R : lookS (drawDK q a r t m) kR = some (.dat (.int r)) := (look_miss kGR).trans ((look_miss kAR).trans look_hit)
theorem look_T : lookS (drawDK q a r t m) kT = some (.dat (.int t)) := (look_miss kGT).trans ((look_miss kAT).trans ((look_miss kRT).trans look_hit))
theorem look_M : lookS (drawDK q a r t m) kM = some (.dat (.int m)) := (look_miss kGM).trans ((look_miss kAM).trans ((look_miss kRM).trans ((look_miss kTM).trans look_hit)))
theorem put_A : putS (drawDK q a r t m) kA (.dat (.int z)) = drawDK q z r t m := by
  unfold drawDK
  rw [put_miss kGA, put_hit (by simp only [List.map_cons, List.map_nil, List.mem_cons, List.not_mem_nil, or_false, not_or]; exact ⟨kAR, kAT, kAM⟩)]
theorem put_R : putS (drawDK q a r t m) kR (.dat (.int z)) = drawDK q a z t m := by
  unfold drawDK
  rw [put_miss kGR, put_miss kAR, put_hit (by simp only [List.map_cons, List.map_nil, List.mem_cons, List.not_mem_nil, or_false, not_or]; exact ⟨kRT, kRM⟩)]
theorem put_T : putS (drawDK q a r t m) kT (.dat (.int z)) = drawDK q a r z m := by
  unfold drawDK
  rw [put_miss kGT, put_miss kAT, put_miss kRT, put_hit (by simp only [List.map_cons, List.map_nil, List.mem_cons, List.not_mem_nil, or_false, not_or]; exact kTM)]
theorem put_M : putS (drawDK q a r t m) kM (.dat (.int z)) = drawDK q a r t z := by
  unfold drawDK
  rw [put_miss kGM, put_miss kAM, put_miss kRM, put_miss kTM, put_hit (by simp)]
end
theorem draw_nodup (q : Addr) (a r t m : Int) : ((drawDK q a r t m).map (·.1)).Nodup := by
  show ([kG, kA, kR, kT, kM] : List Key).Nodup
  decide +kernel
theorem five {kvs : List (Key × SV)} (h : kvs.length = 5) : kvs.length < sizeLine := by rw [h]; decide
def numsSV (ns : List Int) : List SV := ns.map fun n => .dat (.int n)
theorem nums_dats (ns : List Int) : numsSV ns = (ns.map PyData.int).map .dat := by unfold numsSV; rw [List.map_map]; rfl
theorem nums_len (ns : List Int) : (numsSV ns).length = ns.length := List.length_map _
theorem atI_nums {ns : List Int} {a : Int} (h0 : 0 ≤ a) (h1 : a < ns.length) : atI (numsSV ns) a = some (.dat (.int (ns.getD a.toNat 0))) := by
  unfold numsSV
  rw [atI_map]
  have h2 : a.toNat < ns.length := by omega
  have e : atI ns a = some (ns.getD a.toNat 0) := by
    unfold atI ixN
    rw [if_pos h0, if_pos h1]
    show ns[a.toNat]? = some (ns.getD a.toNat 0)
    rw [List.getD_eq_getElem?_getD, List.getElem?_eq_getElem h2]
    rfl
  rw [e]
  rfl
theorem ints_shapedL (ns : List Int) : SeqAt.shaped (.list (ns.map PyData.int)) = true := shaped_plain (by simp only [plainD]; exact plainA_map (fun _ => rfl) ns) (by
  have h := depthAll_le (n := 0) (xs := ns.map PyData.int) fun x hx => by
    obtain ⟨c, _, rfl⟩ := List.mem_map.mp hx
    simp [PyData.depth]
  simp only [PyData.depth]
  omega)
def drawOk (q : Addr) (ns : List Int) (cs : List Cell) : Prop := ∃ a r t m : Int, cs = [.dk (drawDK q a r t m), .lst (numsSV ns)] ∧ 0 ≤ a ∧ 0 ≤ r ∧ 0 ≤ t ∧ 0 ≤ m ∧ m < 2147483647
abbrev drawB (K : PySem.W.Frag) (p q : Addr) (ns : List Int) : Blk := Blk.of K [p, q] (drawOk q ns)
abbrev isDraw (K : PySem.W.Frag) (A : Amb) (p : Addr) : Prop := ∃ q ns, ns.length ≤ 63 ∧ A.I = drawB K p q ns

/-! ### the law's own -/
def boxC (w h : Nat) : List Cl := (List.range w).flatMap fun (i : Nat) => (List.range h).map fun (j : Nat) => ((i : Int), (j : Int))
theorem boxC_succ (w h : Nat) : boxC (w + 1) h = boxC w h ++ (List.range h).map fun (j : Nat) => ((w : Int), (j : Int)) := by
  unfold boxC
  rw [List.range_succ, List.flatMap_append]
  simp
theorem boxC_len (w h : Nat) : (boxC w h).length = w * h := by
  induction w with
  | zero => simp [boxC]
  | succ w ih => rw [boxC_succ, List.length_append, ih, List.length_map, List.length_range, Nat.succ_mul]
theorem boxC_mem {w h : Nat} {c : Cl} (hc : c ∈ boxC w h) : 0 ≤ c.1 ∧ c.1 < w ∧ 0 ≤ c.2 ∧ c.2 < h := by
  unfold boxC at hc
  obtain ⟨i, hi, hc⟩ := List.mem_flatMap.mp hc
  obtain ⟨j, hj, rfl⟩ := List.mem_map.mp hc
  have := List.mem_range.mp hi
  have := List.mem_range.mp hj
  refine ⟨?_, ?_, ?_, ?_⟩ <;> simp only <;> omega
theorem box_small {w h : Nat} (hw : w ≤ 7) (hh : h ≤ 7) : w * h ≤ 49 := Nat.le_trans (Nat.mul_le_mul hw hh) (by decide)
structure Region (cs : List Cl) : Prop where
  ne : cs ≠ []
  len : cs.length ≤ 49
  lo : ∀ c ∈ cs, 0 ≤ c.1 ∧ c.1 ≤ 6 ∧ 0 ≤ c.2 ∧ c.2 ≤ 6
def around (c : Cl) : List (Cl × Cl × Cl) := [((c.1, c.2), (c.1 + 1, c.2), (c.1, c.2 - 1)), ((c.1 + 1, c.2), (c.1 + 1, c.2 + 1), (c.1 + 1, c.2)), ((c.1 + 1, c.2 + 1), (c.1, c.2 + 1), (c.1, c.2 + 1)), ((c.1, c.2 + 1), (c.1, c.2), (c.1 - 1, c.2))]
def lawpre (cs ds : List Cl) : List Sd := cs.flatMap fun c => ((around c).filter fun t => decide (¬ t.2.2 ∈ ds)).map fun t => (t.1, t.2.1)
theorem around_right (c : Cl) : ∀ t ∈ around c, rightOf (t.1, t.2.1) = t.2.2 := by
  intro t ht
  simp only [around, List.mem_cons, List.not_mem_nil, or_false] at ht
  have n1 : ∀ a b : Int, ((a, b) : Cl) = (1, 0) ↔ a = 1 ∧ b = 0 := fun a b => by rw [Prod.mk.injEq]
  have n2 : ∀ a b : Int, ((a, b) : Cl) = (0, 1) ↔ a = 0 ∧ b = 1 := fun a b => by rw [Prod.mk.injEq]
  have n3 : ∀ a b : Int, ((a, b) : Cl) = (-1, 0) ↔ a = -1 ∧ b = 0 := fun a b => by rw [Prod.mk.injEq]
  rcases ht with rfl | rfl | rfl | rfl <;> simp only [rightOf, leftOf, going, n1, n2, n3]
  · rw [if_neg (by omega), if_neg (by omega), if_pos (by omega)]
    exact Prod.ext (by simp only; omega) rfl
  · rw [if_neg (by omega), if_neg (by omega), if_neg (by omega)]
    exact Prod.ext rfl (by simp only; omega)
  · rw [if_pos (by omega)]
  · rw [if_neg (by omega), if_pos (by omega)]
theorem around_perm (c : Cl) : (roundCell c).Perm ((around c).map fun t => (t.1, t.2.1)) := by
  show List.Perm _ [_, _, _, _]
  exact (List.perm_append_comm (l₁ := [((c.1, c.2 + 1), (c.1, c.2))]) (l₂ := [((c.1, c.2), (c.1 + 1, c.2)), ((c.1 + 1, c.2), (c.1 + 1, c.2 + 1)), ((c.1 + 1, c.2 + 1), (c.1, c.2 + 1))]))
theorem filter_round (c : Cl) (p : Cl → Bool) : ((roundCell c).filter fun s => p (rightOf s)).Perm (((around c).filter fun t => p t.2.2).map fun t => (t.1, t.2.1)) := by
  have h1 : ((around c).filter fun t => p t.2.2) = (around c).filter fun t => p (rightOf (t.1, t.2.1)) := List.filter_congr fun t ht => by rw [around_right c t ht]
  rw [h1]
  have h2 := (around_perm c).filter fun s => p (rightOf s)
  rw [List.filter_map] at h2
  exact h2
theorem flat_perm {α β : Type} (f g : α → List β) : ∀ l : List α, (∀ x ∈ l, (f x).Perm (g x)) → (l.flatMap f).Perm (l.flatMap g)
  | [], _ => by simp
  | x :: l, h => by
    rw [List.flatMap_cons, List.flatMap_cons]
    exact (h x List.mem_cons_self).append (flat_perm f g l fun y hy => h y (List.mem_cons_of_mem _ hy))
theorem pre_perm (cs : List Cl) : (presides cs).Perm (lawpre cs cs) := flat_perm _ _ cs fun c _ => filter_round c fun r => decide (¬ r ∈ cs)
theorem sides_eq (cs : List Cl) : sidesD cs = dsort ((lawpre cs cs).map sD) := dsort_eq ((pre_perm cs).map sD) (sides_alike _) (sides_plain _)
theorem presides_len (cs : List Cl) : (presides cs).length ≤ cs.length * 4 := by
  have aux : ∀ (ds l : List Cl), (l.flatMap fun c => (roundCell c).filter fun s => decide (¬ rightOf s ∈ ds)).length ≤ l.length * 4 := by
    intro ds l
    induction l with
    | nil => simp
    | cons x l ih =>
      rw [List.flatMap_cons, List.length_append, List.length_cons, Nat.succ_mul]
      have h := List.length_filter_le (fun s => decide (¬ rightOf s ∈ ds)) (roundCell x)
      have h2 : (roundCell x).length = 4 := rfl
      omega
  exact aux cs cs
theorem lawpre_len (cs ds : List Cl) : (lawpre cs ds).length ≤ cs.length * 4 := by
  unfold lawpre
  induction cs with
  | nil => simp
  | cons x l ih =>
    rw [List.flatMap_cons, List.length_append, List.length_cons, Nat.succ_mul, List.length_map]
    have h := List.length_filter_le (fun t : Cl × Cl × Cl => decide (¬ t.2.2 ∈ ds)) (around x)
    have h2 : (around x).length = 4 := rfl
    omega
theorem lawpre_take (cs ds : List Cl) {i : Nat} {c : Cl} (h : cs[i]? = some c) : lawpre (cs.take (i + 1)) ds = lawpre (cs.take i) ds ++ ((around c).filter fun t => decide (¬ t.2.2 ∈ ds)).map fun t => (t.1, t.2.1) := by
  unfold lawpre
  rw [List.take_add_one, h, List.flatMap_append]
  simp
theorem lawpre_small {cs ds : List Cl} (h : ∀ c ∈ cs, 0 ≤ c.1 ∧ c.1 ≤ 6 ∧ 0 ≤ c.2 ∧ c.2 ≤ 6) : ∀ s ∈ lawpre cs ds, (0 ≤ s.1.1 ∧ s.1.1 ≤ 7) ∧ (0 ≤ s.1.2 ∧ s.1.2 ≤ 7) ∧ (0 ≤ s.2.1 ∧ s.2.1 ≤ 7) ∧ (0 ≤ s.2.2 ∧ s.2.2 ≤ 7) := by
  intro s hs
  unfold lawpre at hs
  obtain ⟨c, hc, hs⟩ := List.mem_flatMap.mp hs
  obtain ⟨t, ht, rfl⟩ := List.mem_map.mp hs
  have ht := (List.mem_filter.mp ht).1
  have hb := h c hc
  simp only [around, List.mem_cons, List.not_mem_nil, or_false] at ht
  rcases ht with rfl | rfl | rfl | rfl <;> refine ⟨?_, ?_, ?_, ?_⟩ <;> simp only <;> omega
/-! ### how long they are told -/
def smallC (c : Cl) : Prop := c.1.natAbs < 100 ∧ c.2.natAbs < 100
theorem cD_small {c : Cl} (h : smallC c) : smallD (cD c) = true := by
  simp only [cD, smallD, smallA, Bool.and_true, Bool.and_eq_true, decide_eq_true_eq]
  have := h.1
  have := h.2
  constructor <;> omega
theorem cD_wt (c : Cl) : wtD (cD c) = 29 := by simp [cD, wtD, wtA]
theorem sD_wt (s : Sd) : wtD (sD s) = 65 := by simp [sD, wtD, wtA, cD_wt]
theorem sD_small {s : Sd} (h1 : smallC s.1) (h2 : smallC s.2) : smallD (sD s) = true := by simp [sD, smallD, smallA, cD_small h1, cD_small h2]
theorem cells_small {cs : List Cl} (h : Region cs) : smallD (.tuple (cs.map cD)) = true ∧ wtD (.tuple (cs.map cD)) ≤ 1000000 ∧ (PyData.tuple (cs.map cD)).depth ≤ 60 := by
  refine ⟨?_, ?_, ?_⟩
  · simp only [smallD]
    refine smallA_mem.mpr fun x hx => ?_
    obtain ⟨c, hc, rfl⟩ := List.mem_map.mp hx
    have := h.lo c hc
    exact cD_small ⟨by omega, by omega⟩
  · have h1 := wtA_le (n := 29) (xs := cs.map cD) fun x hx => by
      obtain ⟨c, hc, rfl⟩ := List.mem_map.mp hx
      rw [cD_wt]
      exact Nat.le_refl _
    have h2 := h.len
    rw [List.length_map] at h1
    simp only [wtD]
    omega
  · have h1 := depthAll_map cD_depth cs
    simp only [PyData.depth]
    omega
theorem sidesD_mem {l : List Sd} {d : PyData} (h : d ∈ dsort (l.map sD)) : ∃ s ∈ l, d = sD s := by
  obtain ⟨s, hs, rfl⟩ := List.mem_map.mp ((dsort_perm _).mem_iff.mp h)
  exact ⟨s, hs, rfl⟩
theorem sorted_small {l : List Sd} (hl : l.length ≤ 2000) (h : ∀ s ∈ l, smallC s.1 ∧ smallC s.2) : smallA (dsort (l.map sD)) = true ∧ wtA (dsort (l.map sD)) ≤ 900000 ∧ PyData.depthAll (dsort (l.map sD)) ≤ 50 := by
  refine ⟨?_, ?_, ?_⟩
  · refine smallA_mem.mpr fun x hx => ?_
    obtain ⟨s, hs, rfl⟩ := sidesD_mem hx
    exact sD_small (h s hs).1 (h s hs).2
  · have h1 := wtA_le (n := 65) (xs := dsort (l.map sD)) fun x hx => by
      obtain ⟨s, hs, rfl⟩ := sidesD_mem hx
      rw [sD_wt]
      exact Nat.le_refl _
    rw [(dsort_perm _).length_eq, List.length_map] at h1
    omega
  · exact Nat.le_trans (depthAll_le (n := 2) fun x hx => by
      obtain ⟨s, hs, rfl⟩ := sidesD_mem hx
      exact sD_depth s) (by decide)
theorem law_small {cs : List Cl} (h : Region cs) : smallA (sidesD cs) = true ∧ wtA (sidesD cs) ≤ 900000 ∧ PyData.depthAll (sidesD cs) ≤ 50 := by
  rw [sides_eq]
  refine sorted_small ?_ fun s hs => ?_
  · have := lawpre_len cs cs
    have := h.len
    omega
  · have := lawpre_small h.lo s hs
    exact ⟨⟨by omega, by omega⟩, by omega, by omega⟩

theorem csD_plain (l : List Cl) : plainD (.tuple (l.map cD)) = true := by
  simp only [plainD]
  exact plainA_map cD_plain l
theorem csD_inj (a b : List Cl) (h : PyData.tuple (a.map cD) = .tuple (b.map cD)) : a = b := by
  simp only [PyData.tuple.injEq] at h
  induction a generalizing b with
  | nil => cases b with
    | nil => rfl
    | cons _ _ => cases h
  | cons x a ih => cases b with
    | nil => cases h
    | cons y b =>
      simp only [List.map_cons, List.cons.injEq] at h
      rw [cD_inj _ _ h.1, ih _ h.2]
theorem eq_cells (a b : List Cl) : PyData.eqv (.tuple (a.map cD)) (.tuple (b.map cD)) = decide (a = b) := eqv_enc (f := fun l : List Cl => .tuple (l.map cD)) csD_plain csD_inj a b
/-! ### sides of some cells, by what is right of them -/
def leS (a b : Sd) : Bool := PySem.W.dataLe false id (sD a) (sD b)
def sortS (l : List Sd) : List Sd := l.mergeSort leS
theorem sortS_map (l : List Sd) : (sortS l).map sD = dsort (l.map sD) := List.map_mergeSort fun a _ b _ => rfl
theorem map_sD_inj {l m : List Sd} (h : l.map sD = m.map sD) : l = m := by
  induction l generalizing m with
  | nil => cases m with
    | nil => rfl
    | cons _ _ => cases h
  | cons x l ih => cases m with
    | nil => cases h
    | cons y m =>
      simp only [List.map_cons, List.cons.injEq] at h
      rw [sD_inj _ _ h.1, ih h.2]
theorem sortS_eq {l m : List Sd} (p : l.Perm m) : sortS l = sortS m := map_sD_inj (by rw [sortS_map, sortS_map]; exact dsort_eq (p.map sD) (sides_alike _) (sides_plain _))
theorem sortS_perm (l : List Sd) : (sortS l).Perm l := List.mergeSort_perm _ _
theorem sortS_pair (l : List Sd) : (sortS l).Pairwise fun a b => leS a b = true := by
  have h := dsort_pair (l.map sD)
  rw [← sortS_map, List.pairwise_map] at h
  exact h
theorem sortS_fix {l : List Sd} (h : l.Pairwise fun a b => leS a b = true) : sortS l = l := List.mergeSort_of_pairwise h
theorem sortS_filter (l : List Sd) (p : Sd → Bool) : (sortS l).filter p = sortS (l.filter p) := by
  rw [← sortS_eq ((sortS_perm l).filter p)]
  exact (sortS_fix ((sortS_pair l).sublist List.filter_sublist)).symm
theorem sdsT_shaped (l : List Sd) : SeqAt.shaped (.tuple (l.map sD)) = true := shaped_plain (by simp only [plainD]; exact plainA_map sD_plain l) (by
  have h := depthAll_map sD_depth l
  simp only [PyData.depth]
  omega)
theorem sdsL_shaped (l : List Sd) : SeqAt.shaped (.list (l.map sD)) = true := shaped_plain (by simp only [plainD]; exact plainA_map sD_plain l) (by
  have h := depthAll_map sD_depth l
  simp only [PyData.depth]
  omega)
theorem ni_cells (cs : List Cl) (c : Cl) : (!(cs.map cD).any fun z => PyData.eqv z (cD c)) = decide (¬ c ∈ cs) := by rw [in_cells, decide_not]
theorem in_sides (l : List Sd) (s : Sd) : (l.map sD).any (fun z => PyData.eqv z (sD s)) = decide (s ∈ l) := by rw [any_enc sD_plain sD_inj]; congr
theorem eq_sides (l m : List Sd) : PyData.eqv (.list (l.map sD)) (.list (m.map sD)) = decide (l = m) := eqv_enc (f := fun l : List Sd => .list (l.map sD)) (fun l => by simp only [plainD]; exact plainA_map sD_plain l) (fun a b h => map_sD_inj (by simpa using h)) l m
theorem sds_small {l : List Sd} (hl : l.length ≤ 2000) (h : ∀ s ∈ l, smallC s.1 ∧ smallC s.2) : smallA ((sortS l).map sD) = true ∧ wtA ((sortS l).map sD) ≤ 900000 ∧ PyData.depthAll ((sortS l).map sD) ≤ 50 := by
  rw [sortS_map]
  exact sorted_small hl h
def sidesP (cs : List Cl) (p : Cl → Bool) : List Sd := cs.flatMap fun c => ((around c).filter fun t => p t.2.2).map fun t => (t.1, t.2.1)
theorem lawpre_P (cs ds : List Cl) : lawpre cs ds = sidesP cs fun r => decide (¬ r ∈ ds) := rfl
theorem presides_filter (cs : List Cl) (p : Cl → Bool) : ((presides cs).filter fun s => p (rightOf s)).Perm (sidesP cs fun r => decide (¬ r ∈ cs) && p r) := by
  unfold presides
  rw [List.filter_flatMap]
  refine flat_perm _ _ cs fun c _ => ?_
  rw [List.filter_filter]
  have h := filter_round c fun r => decide (¬ r ∈ cs) && p r
  refine List.Perm.trans (List.Perm.of_eq ?_) h
  exact List.filter_congr fun s _ => by rw [Bool.and_comm]
theorem sidesP_congr {cs : List Cl} {p q : Cl → Bool} (h : ∀ r, p r = q r) : sidesP cs p = sidesP cs q := by rw [funext h]
theorem filter_two {α : Type} (p q : α → Bool) (hx : ∀ x, p x = true → q x = true → False) : ∀ l : List α, (l.filter p ++ l.filter q).Perm (l.filter fun x => p x || q x)
  | [] => by simp
  | x :: l => by
    have ih := filter_two p q hx l
    cases hp : p x <;> cases hq : q x
    · simp only [List.filter_cons, hp, hq, Bool.or_self, Bool.false_eq_true, if_false]
      exact ih
    · simp only [List.filter_cons, hp, hq, Bool.or_true, Bool.false_eq_true, if_false, if_true]
      exact List.perm_middle.trans (ih.cons x)
    · simp only [List.filter_cons, hp, hq, Bool.or_false, Bool.false_eq_true, if_false, if_true, List.cons_append]
      exact ih.cons x
    · exact absurd hq (by simpa using hx x hp)
theorem flat_two {α β : Type} (f g : α → List β) : ∀ l : List α, (l.flatMap f ++ l.flatMap g).Perm (l.flatMap fun x => f x ++ g x)
  | [] => by simp
  | x :: l => by
    have ih := flat_two f g l
    simp only [List.flatMap_cons]
    have h1 : (f x ++ l.flatMap f ++ (g x ++ l.flatMap g)).Perm (f x ++ g x ++ (l.flatMap f ++ l.flatMap g)) := by
      rw [List.append_assoc, List.append_assoc]
      refine List.Perm.append_left _ ?_
      rw [← List.append_assoc, ← List.append_assoc]
      exact List.Perm.append_right _ List.perm_append_comm
    exact h1.trans (ih.append_left _)
theorem sidesP_two (cs : List Cl) (p q : Cl → Bool) (hx : ∀ r, p r = true → q r = true → False) : (sidesP cs p ++ sidesP cs q).Perm (sidesP cs fun r => p r || q r) := by
  unfold sidesP
  refine (flat_two _ _ cs).trans (flat_perm _ _ cs fun c _ => ?_)
  rw [← List.map_append]
  exact (filter_two (fun t : Cl × Cl × Cl => p t.2.2) (fun t => q t.2.2) (fun t => hx t.2.2) (around c)).map _
theorem sidesP_len (cs : List Cl) (p : Cl → Bool) : (sidesP cs p).length ≤ cs.length * 4 := by
  unfold sidesP
  induction cs with
  | nil => simp
  | cons x l ih =>
    rw [List.flatMap_cons, List.length_append, List.length_cons, Nat.succ_mul, List.length_map]
    have h := List.length_filter_le (fun t : Cl × Cl × Cl => p t.2.2) (around x)
    have h2 : (around x).length = 4 := rfl
    omega
theorem sidesP_take (cs : List Cl) (p : Cl → Bool) {i : Nat} {c : Cl} (h : cs[i]? = some c) : sidesP (cs.take (i + 1)) p = sidesP (cs.take i) p ++ ((around c).filter fun t => p t.2.2).map fun t => (t.1, t.2.1) := by
  unfold sidesP
  rw [List.take_add_one, h, List.flatMap_append]
  simp
theorem sidesP_small {cs : List Cl} {p : Cl → Bool} (h : ∀ c ∈ cs, 0 ≤ c.1 ∧ c.1 ≤ 6 ∧ 0 ≤ c.2 ∧ c.2 ≤ 6) : ∀ s ∈ sidesP cs p, (0 ≤ s.1.1 ∧ s.1.1 ≤ 7) ∧ (0 ≤ s.1.2 ∧ s.1.2 ≤ 7) ∧ (0 ≤ s.2.1 ∧ s.2.1 ≤ 7) ∧ (0 ≤ s.2.2 ∧ s.2.2 ≤ 7) := by
  intro s hs
  unfold sidesP at hs
  obtain ⟨c, hc, hs⟩ := List.mem_flatMap.mp hs
  obtain ⟨t, ht, rfl⟩ := List.mem_map.mp hs
  have ht := (List.mem_filter.mp ht).1
  have hb := h c hc
  simp only [around, List.mem_cons, List.not_mem_nil, or_false] at ht
  rcases ht with rfl | rfl | rfl | rfl <;> refine ⟨?_, ?_, ?_, ?_⟩ <;> simp only <;> omega
/-! ### which they are -/
def Unit1 (s : Sd) : Prop := going s = (1, 0) ∨ going s = (0, 1) ∨ going s = (-1, 0) ∨ going s = (0, -1)
theorem cl2 (a b x y : Int) : ((a, b) : Cl) = (x, y) ↔ a = x ∧ b = y := by rw [Prod.mk.injEq]
theorem around_unit (c : Cl) : ∀ t ∈ around c, Unit1 (t.1, t.2.1) ∧ leftOf (t.1, t.2.1) = c ∧ rightOf (t.1, t.2.1) = t.2.2 := by
  intro t ht
  refine ⟨?_, ?_, around_right c t ht⟩
  · simp only [around, List.mem_cons, List.not_mem_nil, or_false] at ht
    rcases ht with rfl | rfl | rfl | rfl <;> simp only [Unit1, going, cl2] <;> omega
  · simp only [around, List.mem_cons, List.not_mem_nil, or_false] at ht
    rcases ht with rfl | rfl | rfl | rfl <;> simp only [leftOf, going, cl2]
    · rw [if_pos (by omega)]
    · rw [if_neg (by omega), if_pos (by omega)]
      exact Prod.ext (by simp only; omega) rfl
    · rw [if_neg (by omega), if_neg (by omega), if_pos (by omega)]
      exact Prod.ext (by simp only; omega) (by simp only; omega)
    · rw [if_neg (by omega), if_neg (by omega), if_neg (by omega)]
      exact Prod.ext rfl (by simp only; omega)
theorem unit_around {s : Sd} (h : Unit1 s) : ∃ t ∈ around (leftOf s), s = (t.1, t.2.1) := by
  obtain ⟨⟨a, b⟩, ⟨c, d⟩⟩ := s
  simp only [Unit1, going, cl2] at h
  rcases h with h | h | h | h
  · refine ⟨((a, b), (a + 1, b), (a, b - 1)), ?_, ?_⟩
    · simp only [leftOf, going, cl2]
      rw [if_pos (by omega)]
      simp [around]
    · simp only [Prod.mk.injEq, true_and]; omega
  · refine ⟨((a, b), (a, b + 1), (a, b)), ?_, ?_⟩
    · simp only [leftOf, going, cl2]
      rw [if_neg (by omega), if_pos (by omega)]
      simp only [around, List.mem_cons, Prod.mk.injEq, and_true, true_and]
      right; left; omega
    · simp only [Prod.mk.injEq, true_and]; omega
  · refine ⟨((a, b), (a - 1, b), (a - 1, b)), ?_, ?_⟩
    · simp only [leftOf, going, cl2]
      rw [if_neg (by omega), if_neg (by omega), if_pos (by omega)]
      simp only [around, List.mem_cons, Prod.mk.injEq, and_true, true_and]
      right; right; left; omega
    · simp only [Prod.mk.injEq, true_and]; omega
  · refine ⟨((a, b), (a, b - 1), (a - 1, b - 1)), ?_, ?_⟩
    · simp only [leftOf, going, cl2]
      rw [if_neg (by omega), if_neg (by omega), if_neg (by omega)]
      simp only [around, List.mem_cons, Prod.mk.injEq, and_true, true_and]
      right; right; right; left; omega
    · simp only [Prod.mk.injEq, true_and]; omega
theorem mem_sidesP {cs : List Cl} {p : Cl → Bool} {s : Sd} : s ∈ sidesP cs p ↔ Unit1 s ∧ leftOf s ∈ cs ∧ p (rightOf s) = true := by
  unfold sidesP
  rw [List.mem_flatMap]
  constructor
  · rintro ⟨c, hc, hs⟩
    obtain ⟨t, ht, rfl⟩ := List.mem_map.mp hs
    obtain ⟨ht, hp⟩ := List.mem_filter.mp ht
    obtain ⟨h1, h2, h3⟩ := around_unit c t ht
    exact ⟨h1, by rw [h2]; exact hc, by rw [h3]; exact hp⟩
  · rintro ⟨h1, h2, h3⟩
    obtain ⟨t, ht, e⟩ := unit_around h1
    refine ⟨_, h2, List.mem_map.mpr ⟨t, List.mem_filter.mpr ⟨ht, ?_⟩, e.symm⟩⟩
    rw [e, around_right _ t ht] at h3
    exact h3
theorem around_nodup (c : Cl) : ((around c).map fun t => (t.1, t.2.1)).Nodup := by
  simp only [around, List.map_cons, List.map_nil, List.nodup_cons, List.mem_cons, List.not_mem_nil, or_false, Prod.mk.injEq, not_false_eq_true, List.nodup_nil, and_true, not_or]
  omega
theorem sidesP_nodup {cs : List Cl} (h : cs.Nodup) (p : Cl → Bool) : (sidesP cs p).Nodup := by
  unfold sidesP
  refine List.pairwise_flatMap.mpr ⟨fun c _ => ?_, ?_⟩
  · exact (around_nodup c).sublist (List.filter_sublist.map _)
  · refine List.Pairwise.imp ?_ h
    intro a b hab x hx y hy e
    obtain ⟨t, ht, rfl⟩ := List.mem_map.mp hx
    obtain ⟨u, hu, rfl⟩ := List.mem_map.mp hy
    have h1 := (around_unit a t (List.mem_filter.mp ht).1).2.1
    have h2 := (around_unit b u (List.mem_filter.mp hu).1).2.1
    rw [e] at h1
    exact hab (h1.symm.trans h2)
def flipS (s : Sd) : Sd := (s.2, s.1)
theorem unit_flip {s : Sd} (h : Unit1 s) : Unit1 (flipS s) := by
  obtain ⟨⟨a, b⟩, ⟨c, d⟩⟩ := s
  simp only [Unit1, going, cl2, flipS] at h ⊢
  omega
theorem flip_flip (s : Sd) : flipS (flipS s) = s := rfl
theorem rightOf_flip (s : Sd) : rightOf (flipS s) = leftOf s := rfl
theorem leftOf_flip (s : Sd) : leftOf (flipS s) = rightOf s := rfl
theorem sidesP_flip {cs ds : List Cl} (h1 : cs.Nodup) (h2 : ds.Nodup) : ((sidesP cs fun r => decide (r ∈ ds)).map flipS).Perm (sidesP ds fun r => decide (r ∈ cs)) := by
  refine (List.perm_ext_iff_of_nodup ?_ (sidesP_nodup h2 _)).mpr fun s => ?_
  · exact List.Pairwise.map _ (fun a b hab e => hab (by rw [← flip_flip a, e, flip_flip])) (sidesP_nodup h1 _)
  · rw [List.mem_map, mem_sidesP]
    constructor
    · rintro ⟨a, ha, rfl⟩
      obtain ⟨h1, h2, h3⟩ := mem_sidesP.mp ha
      exact ⟨unit_flip h1, by rw [leftOf_flip]; simpa using h3, by rw [rightOf_flip]; exact decide_eq_true h2⟩
    · rintro ⟨h1, h2, h3⟩
      refine ⟨flipS s, mem_sidesP.mpr ⟨unit_flip h1, ?_, ?_⟩, rfl⟩
      · rw [leftOf_flip]; simpa using h3
      · rw [rightOf_flip]; simpa using h2

/-! ### sides, by the way in which they go -/
inductive Side (cs : List Cl) : Sd → Prop
  | east (i j : Int) : (i, j) ∈ cs → (i, j - 1) ∉ cs → Side cs ((i, j), (i + 1, j))
  | north (i j : Int) : (i - 1, j) ∈ cs → (i, j) ∉ cs → Side cs ((i, j), (i, j + 1))
  | west (i j : Int) : (i - 1, j - 1) ∈ cs → (i - 1, j) ∉ cs → Side cs ((i, j), (i - 1, j))
  | south (i j : Int) : (i, j - 1) ∈ cs → (i - 1, j - 1) ∉ cs → Side cs ((i, j), (i, j - 1))
theorem side_round {cs : List Cl} {s : Sd} : s ∈ presides cs ↔ Side cs s := by
  have n1 : ∀ a b : Int, ((a, b) : Cl) = (1, 0) ↔ a = 1 ∧ b = 0 := fun a b => by rw [Prod.mk.injEq]
  have n2 : ∀ a b : Int, ((a, b) : Cl) = (0, 1) ↔ a = 0 ∧ b = 1 := fun a b => by rw [Prod.mk.injEq]
  have n3 : ∀ a b : Int, ((a, b) : Cl) = (-1, 0) ↔ a = -1 ∧ b = 0 := fun a b => by rw [Prod.mk.injEq]
  have rE : ∀ i j : Int, rightOf ((i, j), (i + 1, j)) = (i, j - 1) := fun i j => by
    simp only [rightOf, leftOf, going, n1, n2, n3]
    rw [if_neg (by omega), if_neg (by omega), if_pos (by omega)]
    exact Prod.ext (by simp only; omega) rfl
  have rN : ∀ i j : Int, rightOf ((i, j), (i, j + 1)) = (i, j) := fun i j => by
    simp only [rightOf, leftOf, going, n1, n2, n3]
    rw [if_neg (by omega), if_neg (by omega), if_neg (by omega)]
    exact Prod.ext rfl (by simp only; omega)
  have rW : ∀ i j : Int, rightOf ((i, j), (i - 1, j)) = (i - 1, j) := fun i j => by
    simp only [rightOf, leftOf, going, n1, n2, n3]
    rw [if_pos (by omega)]
  have rS : ∀ i j : Int, rightOf ((i, j), (i, j - 1)) = (i - 1, j - 1) := fun i j => by
    simp only [rightOf, leftOf, going, n1, n2, n3]
    rw [if_neg (by omega), if_pos (by omega)]
  unfold presides
  rw [List.mem_flatMap]
  constructor
  · rintro ⟨⟨a, b⟩, hc, hs⟩
    rw [List.mem_filter, decide_eq_true_eq] at hs
    obtain ⟨h1, h2⟩ := hs
    simp only [roundCell, List.mem_cons, List.not_mem_nil, or_false] at h1
    rcases h1 with rfl | rfl | rfl | rfl
    · have e : ((a, b + 1), (a, b)) = (((a, b + 1), (a, b + 1 - 1)) : Sd) := by rw [Int.add_sub_cancel]
      rw [e] at h2 ⊢
      rw [rS] at h2
      exact .south a (b + 1) (by rw [Int.add_sub_cancel]; exact hc) h2
    · rw [rE] at h2
      exact .east a b hc h2
    · rw [rN] at h2
      exact .north (a + 1) b (by rw [Int.add_sub_cancel]; exact hc) h2
    · have e : ((a + 1, b + 1), (a, b + 1)) = (((a + 1, b + 1), (a + 1 - 1, b + 1)) : Sd) := by rw [Int.add_sub_cancel]
      rw [e] at h2 ⊢
      rw [rW] at h2
      exact .west (a + 1) (b + 1) (by rw [Int.add_sub_cancel, Int.add_sub_cancel]; exact hc) h2
  · intro h
    cases h with
    | east i j h1 h2 => exact ⟨_, h1, List.mem_filter.mpr ⟨by simp [roundCell], by rw [rE]; exact decide_eq_true h2⟩⟩
    | north i j h1 h2 => exact ⟨_, h1, List.mem_filter.mpr ⟨by simp [roundCell], by rw [rN]; exact decide_eq_true h2⟩⟩
    | west i j h1 h2 => exact ⟨_, h1, List.mem_filter.mpr ⟨by simp [roundCell], by rw [rW]; exact decide_eq_true h2⟩⟩
    | south i j h1 h2 => exact ⟨_, h1, List.mem_filter.mpr ⟨by simp [roundCell], by rw [rS]; exact decide_eq_true h2⟩⟩
/-- the side that goes on: to the left, straight on, to the right -/
def nx (cs : List Cl) (s : Sd) : Sd :=
  let p := s.2
  if going s = (1, 0) then (if p ∉ cs then (p, (p.1, p.2 + 1)) else if (p.1, p.2 - 1) ∉ cs then (p, (p.1 + 1, p.2)) else (p, (p.1, p.2 - 1)))
  else if going s = (0, 1) then (if (p.1 - 1, p.2) ∉ cs then (p, (p.1 - 1, p.2)) else if p ∉ cs then (p, (p.1, p.2 + 1)) else (p, (p.1 + 1, p.2)))
  else if going s = (-1, 0) then (if (p.1 - 1, p.2 - 1) ∉ cs then (p, (p.1, p.2 - 1)) else if (p.1 - 1, p.2) ∉ cs then (p, (p.1 - 1, p.2)) else (p, (p.1, p.2 + 1)))
  else (if (p.1, p.2 - 1) ∉ cs then (p, (p.1 + 1, p.2)) else if (p.1 - 1, p.2 - 1) ∉ cs then (p, (p.1, p.2 - 1)) else (p, (p.1 - 1, p.2)))
theorem nx_east (cs : List Cl) (i j : Int) : nx cs ((i, j), (i + 1, j)) = if (i + 1, j) ∉ cs then ((i + 1, j), (i + 1, j + 1)) else if (i + 1, j - 1) ∉ cs then ((i + 1, j), (i + 1 + 1, j)) else ((i + 1, j), (i + 1, j - 1)) := by
  unfold nx
  rw [if_pos (by unfold going; exact Prod.ext (by simp only; omega) (by simp only; omega))]
theorem nx_north (cs : List Cl) (i j : Int) : nx cs ((i, j), (i, j + 1)) = if (i - 1, j + 1) ∉ cs then ((i, j + 1), (i - 1, j + 1)) else if (i, j + 1) ∉ cs then ((i, j + 1), (i, j + 1 + 1)) else ((i, j + 1), (i + 1, j + 1)) := by
  unfold nx
  rw [if_neg (by unfold going; rw [Prod.mk.injEq]; simp only; omega), if_pos (by unfold going; exact Prod.ext (by simp only; omega) (by simp only; omega))]
theorem nx_west (cs : List Cl) (i j : Int) : nx cs ((i, j), (i - 1, j)) = if (i - 1 - 1, j - 1) ∉ cs then ((i - 1, j), (i - 1, j - 1)) else if (i - 1 - 1, j) ∉ cs then ((i - 1, j), (i - 1 - 1, j)) else ((i - 1, j), (i - 1, j + 1)) := by
  unfold nx
  rw [if_neg (by unfold going; rw [Prod.mk.injEq]; simp only; omega), if_neg (by unfold going; rw [Prod.mk.injEq]; simp only; omega), if_pos (by unfold going; exact Prod.ext (by simp only; omega) (by simp only; omega))]
theorem nx_south (cs : List Cl) (i j : Int) : nx cs ((i, j), (i, j - 1)) = if (i, j - 1 - 1) ∉ cs then ((i, j - 1), (i + 1, j - 1)) else if (i - 1, j - 1 - 1) ∉ cs then ((i, j - 1), (i, j - 1 - 1)) else ((i, j - 1), (i - 1, j - 1)) := by
  unfold nx
  rw [if_neg (by unfold going; rw [Prod.mk.injEq]; simp only; omega), if_neg (by unfold going; rw [Prod.mk.injEq]; simp only; omega), if_neg (by unfold going; rw [Prod.mk.injEq]; simp only; omega)]
theorem nx_side {cs : List Cl} {s : Sd} (h : Side cs s) : Side cs (nx cs s) := by
  cases h with
  | east i j h1 h2 =>
    rw [nx_east]
    by_cases a : (i + 1, j) ∈ cs
    · rw [if_neg (by simpa using a)]
      by_cases b : (i + 1, j - 1) ∈ cs
      · rw [if_neg (by simpa using b)]
        exact .south (i + 1) j b (by rw [Int.add_sub_cancel]; exact h2)
      · rw [if_pos b]
        exact .east (i + 1) j a b
    · rw [if_pos a]
      exact .north (i + 1) j (by rw [Int.add_sub_cancel]; exact h1) a
  | north i j h1 h2 =>
    rw [nx_north]
    by_cases a : (i - 1, j + 1) ∈ cs
    · rw [if_neg (by simpa using a)]
      by_cases b : (i, j + 1) ∈ cs
      · rw [if_neg (by simpa using b)]
        exact .east i (j + 1) b (by rw [Int.add_sub_cancel]; exact h2)
      · rw [if_pos b]
        exact .north i (j + 1) a b
    · rw [if_pos a]
      exact .west i (j + 1) (by rw [Int.add_sub_cancel]; exact h1) a
  | west i j h1 h2 =>
    rw [nx_west]
    by_cases a : (i - 1 - 1, j - 1) ∈ cs
    · rw [if_neg (by simpa using a)]
      by_cases b : (i - 1 - 1, j) ∈ cs
      · rw [if_neg (by simpa using b)]
        exact .north (i - 1) j b h2
      · rw [if_pos b]
        exact .west (i - 1) j a b
    · rw [if_pos a]
      exact .south (i - 1) j h1 a
  | south i j h1 h2 =>
    rw [nx_south]
    by_cases a : (i, j - 1 - 1) ∈ cs
    · rw [if_neg (by simpa using a)]
      by_cases b : (i - 1, j - 1 - 1) ∈ cs
      · rw [if_neg (by simpa using b)]
        exact .west i (j - 1) b h2
      · rw [if_pos b]
        exact .south i (j - 1) a b
    · rw [if_pos a]
      exact .east i (j - 1) h1 a
theorem nx_first {cs : List Cl} (s : Sd) : (nx cs s).1 = s.2 := by
  unfold nx
  simp only
  repeat' split
  all_goals rfl
/-- the side ahead of it -/
def prevS (cs : List Cl) (s : Sd) : Sd :=
  let p := s.1
  if going s = (1, 0) then (if (p.1 - 1, p.2) ∉ cs then ((p.1, p.2 + 1), p) else if (p.1 - 1, p.2 - 1) ∉ cs then ((p.1 - 1, p.2), p) else ((p.1, p.2 - 1), p))
  else if going s = (0, 1) then (if (p.1 - 1, p.2 - 1) ∉ cs then ((p.1 - 1, p.2), p) else if (p.1, p.2 - 1) ∉ cs then ((p.1, p.2 - 1), p) else ((p.1 + 1, p.2), p))
  else if going s = (-1, 0) then (if (p.1, p.2 - 1) ∉ cs then ((p.1, p.2 - 1), p) else if p ∉ cs then ((p.1 + 1, p.2), p) else ((p.1, p.2 + 1), p))
  else (if p ∉ cs then ((p.1 + 1, p.2), p) else if (p.1 - 1, p.2) ∉ cs then ((p.1, p.2 + 1), p) else ((p.1 - 1, p.2), p))
theorem pv_east (cs : List Cl) (i j : Int) : prevS cs ((i, j), (i + 1, j)) = if (i - 1, j) ∉ cs then ((i, j + 1), (i, j)) else if (i - 1, j - 1) ∉ cs then ((i - 1, j), (i, j)) else ((i, j - 1), (i, j)) := by
  unfold prevS
  rw [if_pos (by unfold going; exact Prod.ext (by simp only; omega) (by simp only; omega))]
theorem pv_north (cs : List Cl) (i j : Int) : prevS cs ((i, j), (i, j + 1)) = if (i - 1, j - 1) ∉ cs then ((i - 1, j), (i, j)) else if (i, j - 1) ∉ cs then ((i, j - 1), (i, j)) else ((i + 1, j), (i, j)) := by
  unfold prevS
  rw [if_neg (by unfold going; rw [Prod.mk.injEq]; simp only; omega), if_pos (by unfold going; exact Prod.ext (by simp only; omega) (by simp only; omega))]
theorem pv_west (cs : List Cl) (i j : Int) : prevS cs ((i, j), (i - 1, j)) = if (i, j - 1) ∉ cs then ((i, j - 1), (i, j)) else if (i, j) ∉ cs then ((i + 1, j), (i, j)) else ((i, j + 1), (i, j)) := by
  unfold prevS
  rw [if_neg (by unfold going; rw [Prod.mk.injEq]; simp only; omega), if_neg (by unfold going; rw [Prod.mk.injEq]; simp only; omega), if_pos (by unfold going; exact Prod.ext (by simp only; omega) (by simp only; omega))]
theorem pv_south (cs : List Cl) (i j : Int) : prevS cs ((i, j), (i, j - 1)) = if (i, j) ∉ cs then ((i + 1, j), (i, j)) else if (i - 1, j) ∉ cs then ((i, j + 1), (i, j)) else ((i - 1, j), (i, j)) := by
  unfold prevS
  rw [if_neg (by unfold going; rw [Prod.mk.injEq]; simp only; omega), if_neg (by unfold going; rw [Prod.mk.injEq]; simp only; omega), if_neg (by unfold going; rw [Prod.mk.injEq]; simp only; omega)]
theorem pv_nx {cs : List Cl} {s : Sd} (h : Side cs s) : prevS cs (nx cs s) = s := by
  have no : ∀ {c : Cl}, c ∈ cs → ¬ c ∉ cs := fun h z => z h
  cases h with
  | east i j h1 h2 =>
    rw [nx_east]
    by_cases a : (i + 1, j) ∈ cs
    · rw [if_neg (no a)]
      by_cases b : (i + 1, j - 1) ∈ cs
      · rw [if_neg (no b), pv_south, if_neg (no a), if_neg (no (by rw [Int.add_sub_cancel]; exact h1)), Int.add_sub_cancel]
      · rw [if_pos b, pv_east, if_neg (no (by rw [Int.add_sub_cancel]; exact h1)), if_pos (by rw [Int.add_sub_cancel]; exact h2), Int.add_sub_cancel]
    · rw [if_pos a, pv_north, if_pos (by rw [Int.add_sub_cancel]; exact h2), Int.add_sub_cancel]
  | north i j h1 h2 =>
    rw [nx_north]
    by_cases a : (i - 1, j + 1) ∈ cs
    · rw [if_neg (no a)]
      by_cases b : (i, j + 1) ∈ cs
      · rw [if_neg (no b), pv_east, if_neg (no a), if_neg (no (by rw [Int.add_sub_cancel]; exact h1)), Int.add_sub_cancel]
      · rw [if_pos b, pv_north, if_neg (no (by rw [Int.add_sub_cancel]; exact h1)), if_pos (by rw [Int.add_sub_cancel]; exact h2), Int.add_sub_cancel]
    · rw [if_pos a, pv_west, if_pos (by rw [Int.add_sub_cancel]; exact h2), Int.add_sub_cancel]
  | west i j h1 h2 =>
    rw [nx_west]
    by_cases a : (i - 1 - 1, j - 1) ∈ cs
    · rw [if_neg (no a)]
      by_cases b : (i - 1 - 1, j) ∈ cs
      · rw [if_neg (no b), pv_north, if_neg (no a), if_neg (no h1), Int.sub_add_cancel]
      · rw [if_pos b, pv_west, if_neg (no h1), if_pos h2, Int.sub_add_cancel]
    · rw [if_pos a, pv_south, if_pos h2, Int.sub_add_cancel]
  | south i j h1 h2 =>
    rw [nx_south]
    by_cases a : (i, j - 1 - 1) ∈ cs
    · rw [if_neg (no a)]
      by_cases b : (i - 1, j - 1 - 1) ∈ cs
      · rw [if_neg (no b), pv_west, if_neg (no a), if_neg (no h1), Int.sub_add_cancel]
      · rw [if_pos b, pv_south, if_neg (no h1), if_pos h2, Int.sub_add_cancel]
    · rw [if_pos a, pv_east, if_pos h2, Int.sub_add_cancel]
theorem nx_inj {cs : List Cl} {s t : Sd} (hs : Side cs s) (ht : Side cs t) (h : nx cs s = nx cs t) : s = t := by rw [← pv_nx hs, ← pv_nx ht, h]
/-- the side that turns to the left -/
def lt (s : Sd) : Sd := (s.2, (s.2.1 - (going s).2, s.2.2 + (going s).1))
/-- all sides that begin where a side ends: the one that goes on, and another one only where it turns to the left -/
theorem outs {cs : List Cl} {s t : Sd} (hs : Side cs s) (ht : Side cs t) (h : t.1 = s.2) : t = nx cs s ∨ nx cs s = lt s := by
  have no : ∀ {c : Cl}, c ∈ cs → ¬ c ∉ cs := fun h z => z h
  cases hs with
  | east i j h1 h2 =>
    rw [nx_east]
    by_cases a : (i + 1, j) ∈ cs
    · left
      rw [if_neg (no a)]
      cases ht with
      | east u v g1 g2 =>
        obtain ⟨rfl, rfl⟩ := Prod.mk.inj h
        rw [if_pos g2]
      | north u v g1 g2 => obtain ⟨rfl, rfl⟩ := Prod.mk.inj h; exact absurd a g2
      | west u v g1 g2 => obtain ⟨rfl, rfl⟩ := Prod.mk.inj h; rw [Int.add_sub_cancel] at g1; exact absurd g1 h2
      | south u v g1 g2 =>
        obtain ⟨rfl, rfl⟩ := Prod.mk.inj h
        rw [if_neg (no g1)]
    · right
      rw [if_pos a]
      unfold lt going
      exact Prod.ext rfl (Prod.ext (by simp only; omega) (by simp only; omega))
  | north i j h1 h2 =>
    rw [nx_north]
    by_cases a : (i - 1, j + 1) ∈ cs
    · left
      rw [if_neg (no a)]
      cases ht with
      | east u v g1 g2 =>
        obtain ⟨rfl, rfl⟩ := Prod.mk.inj h
        rw [if_neg (no g1)]
      | north u v g1 g2 =>
        obtain ⟨rfl, rfl⟩ := Prod.mk.inj h
        rw [if_pos g2]
      | west u v g1 g2 => obtain ⟨rfl, rfl⟩ := Prod.mk.inj h; exact absurd a g2
      | south u v g1 g2 => obtain ⟨rfl, rfl⟩ := Prod.mk.inj h; rw [Int.add_sub_cancel] at g1; exact absurd g1 h2
    · right
      rw [if_pos a]
      unfold lt going
      exact Prod.ext rfl (Prod.ext (by simp only; omega) (by simp only; omega))
  | west i j h1 h2 =>
    rw [nx_west]
    by_cases a : (i - 1 - 1, j - 1) ∈ cs
    · left
      rw [if_neg (no a)]
      cases ht with
      | east u v g1 g2 => obtain ⟨rfl, rfl⟩ := Prod.mk.inj h; exact absurd g1 h2
      | north u v g1 g2 =>
        obtain ⟨rfl, rfl⟩ := Prod.mk.inj h
        rw [if_neg (no g1)]
      | west u v g1 g2 =>
        obtain ⟨rfl, rfl⟩ := Prod.mk.inj h
        rw [if_pos g2]
      | south u v g1 g2 => obtain ⟨rfl, rfl⟩ := Prod.mk.inj h; exact absurd a g2
    · right
      rw [if_pos a]
      unfold lt going
      exact Prod.ext rfl (Prod.ext (by simp only; omega) (by simp only; omega))
  | south i j h1 h2 =>
    rw [nx_south]
    by_cases a : (i, j - 1 - 1) ∈ cs
    · left
      rw [if_neg (no a)]
      cases ht with
      | east u v g1 g2 => obtain ⟨rfl, rfl⟩ := Prod.mk.inj h; exact absurd a g2
      | north u v g1 g2 => obtain ⟨rfl, rfl⟩ := Prod.mk.inj h; exact absurd g1 h2
      | west u v g1 g2 =>
        obtain ⟨rfl, rfl⟩ := Prod.mk.inj h
        rw [if_neg (no g1)]
      | south u v g1 g2 =>
        obtain ⟨rfl, rfl⟩ := Prod.mk.inj h
        rw [if_pos g2]
    · right
      rw [if_pos a]
      unfold lt going
      exact Prod.ext rfl (Prod.ext (by simp only; omega) (by simp only; omega))
/-- where the one to the left is a side, it goes on -/
theorem left_on {cs : List Cl} {s : Sd} (hs : Side cs s) (h : Side cs (lt s)) : nx cs s = lt s := by
  rcases outs hs h rfl with e | e
  · exact e.symm
  · exact e
theorem nx_of {cs : List Cl} {s t : Sd} (hs : Side cs s) (ht : Side cs t) (h : t.1 = s.2) (hn : ¬ Side cs (lt s)) : t = nx cs s := by
  rcases outs hs ht h with e | e
  · exact e
  · exact absurd (by rw [← e]; exact nx_side hs) hn

/-! ### orbits -/
section
variable {α : Type} [DecidableEq α]
def pw (f : α → α) : Nat → α → α
  | 0, s => s
  | n + 1, s => f (pw f n s)
abbrev pwx (f : α → α) (k : Nat) (s : α) : α := pw f k s
def itr (f : α → α) (s : α) (k : Nat) : List α := (List.range k).map fun i => pw f i s
theorem itr_succ (f : α → α) (s : α) (k : Nat) : itr f s (k + 1) = itr f s k ++ [pw f k s] := by
  unfold itr
  rw [List.range_succ, List.map_append]
  rfl
theorem itr_len (f : α → α) (s : α) (k : Nat) : (itr f s k).length = k := by unfold itr; rw [List.length_map, List.length_range]
theorem mem_itr {f : α → α} {s : α} {k : Nat} {x : α} : x ∈ itr f s k ↔ ∃ i, i < k ∧ pw f i s = x := by
  unfold itr
  rw [List.mem_map]
  exact ⟨fun ⟨i, h, e⟩ => ⟨i, List.mem_range.mp h, e⟩, fun ⟨i, h, e⟩ => ⟨i, List.mem_range.mpr h, e⟩⟩
theorem itr_get {f : α → α} {s : α} {k i : Nat} (h : i < k) : (itr f s k)[i]? = some (pw f i s) := by
  unfold itr
  rw [List.getElem?_map, List.getElem?_range h]
  rfl
theorem itr_ne {f : α → α} {s : α} {k i j : Nat} (h : (itr f s k).Nodup) (hi : i < k) (hj : j < k) (e : pw f i s = pw f j s) : i = j := by
  have h1 : (itr f s k)[i]? = (itr f s k)[j]? := by rw [itr_get hi, itr_get hj, e]
  exact (List.getElem?_inj (by rw [itr_len]; exact hi) h).mp h1
/-- f stays in S, and no two go to one -/
structure Turns (S : List α) (f : α → α) : Prop where
  maps : ∀ x ∈ S, f x ∈ S
  inj : ∀ x ∈ S, ∀ y ∈ S, f x = f y → x = y
theorem Turns.pw {S : List α} {f : α → α} (h : Turns S f) {s : α} (hs : s ∈ S) : ∀ k, pw f k s ∈ S
  | 0 => hs
  | k + 1 => h.maps _ (h.pw hs k)
theorem Turns.back {S : List α} {f : α → α} (h : Turns S f) {s : α} (hs : s ∈ S) {a : Nat} : ∀ m, pwx f (a + m) s = pwx f m s → pwx f a s = s
  | 0, e => e
  | m + 1, e => h.back hs m (h.inj _ (h.pw hs _) _ (h.pw hs _) e)
/-- the rings that begin at the first i of S, each at the first side that no earlier one has -/
inductive Out (S : List α) (f : α → α) : Nat → List (List α) → Prop
  | zero : Out S f 0 []
  | skip {i rs s} : Out S f i rs → S[i]? = some s → s ∈ rs.flatten → Out S f (i + 1) rs
  | ring {i rs s k} : Out S f i rs → S[i]? = some s → s ∉ rs.flatten → 0 < k → pw f k s = s → (itr f s k).Nodup → (∀ x ∈ itr f s k, x ∉ rs.flatten) → Out S f (i + 1) (rs ++ [itr f s k])
theorem period_one {f : α → α} {s : α} {k m : Nat} (hk : 0 < k) (hm : 0 < m) (e1 : pw f k s = s) (e2 : pw f m s = s) (n1 : (itr f s k).Nodup) (n2 : (itr f s m).Nodup) : k = m := by
  rcases Nat.lt_trichotomy k m with h | h | h
  · have := itr_ne n2 h hm (e1.trans (show s = pw f 0 s from rfl))
    omega
  · exact h
  · have := itr_ne n1 h hk (e2.trans (show s = pw f 0 s from rfl))
    omega
theorem Out.one {S : List α} {f : α → α} : ∀ {i : Nat} {rs qs : List (List α)}, Out S f i rs → Out S f i qs → rs = qs
  | 0, _, _, .zero, .zero => rfl
  | _ + 1, _, _, .skip h1 e1 m1, .skip h2 e2 m2 => Out.one h1 h2
  | _ + 1, _, _, .skip h1 e1 m1, .ring h2 e2 m2 _ _ _ _ => by
    rw [e1] at e2; cases e2
    rw [Out.one h1 h2] at m1
    exact absurd m1 m2
  | _ + 1, _, _, .ring h1 e1 m1 _ _ _ _, .skip h2 e2 m2 => by
    rw [e1] at e2; cases e2
    rw [Out.one h1 h2] at m1
    exact absurd m2 m1
  | _ + 1, _, _, .ring h1 e1 m1 k1 p1 n1 _, .ring h2 e2 m2 k2 p2 n2 _ => by
    rw [e1] at e2; cases e2
    rw [Out.one h1 h2, period_one k1 k2 p1 p2 n1 n2]
structure Ring (f : α → α) (r : List α) : Prop where
  is : ∃ s k, 0 < k ∧ r = itr f s k ∧ pw f k s = s ∧ r.Nodup
theorem Ring.next {f : α → α} {r : List α} (h : Ring f r) {x : α} (hx : x ∈ r) : f x ∈ r := by
  obtain ⟨s, k, hk, rfl, e, _⟩ := h.is
  obtain ⟨i, hi, rfl⟩ := mem_itr.mp hx
  by_cases h2 : i + 1 < k
  · exact mem_itr.mpr ⟨i + 1, h2, rfl⟩
  · have : i + 1 = k := by omega
    refine mem_itr.mpr ⟨0, hk, ?_⟩
    show s = pw f (i + 1) s
    rw [this, e]
theorem Ring.prev {f : α → α} {r : List α} (h : Ring f r) {x : α} (hx : x ∈ r) : ∃ y ∈ r, f y = x := by
  obtain ⟨s, k, hk, rfl, e, _⟩ := h.is
  obtain ⟨i, hi, rfl⟩ := mem_itr.mp hx
  cases i with
  | zero =>
    refine ⟨pw f (k - 1) s, mem_itr.mpr ⟨k - 1, by omega, rfl⟩, ?_⟩
    show pw f (k - 1 + 1) s = s
    rw [show k - 1 + 1 = k by omega, e]
  | succ i => exact ⟨pw f i s, mem_itr.mpr ⟨i, by omega, rfl⟩, rfl⟩
theorem Out.rings {S : List α} {f : α → α} {i : Nat} {rs : List (List α)} (h : Out S f i rs) : ∀ r ∈ rs, Ring f r := by
  induction h with
  | zero => simp
  | skip _ _ _ ih => exact ih
  | ring _ _ _ hk e n _ ih =>
    intro r hr
    rcases List.mem_append.mp hr with hr | hr
    · exact ih r hr
    · rw [List.mem_singleton.mp hr]
      exact ⟨_, _, hk, rfl, e, n⟩
theorem Out.sub {S : List α} {f : α → α} (ht : Turns S f) {i : Nat} {rs : List (List α)} (h : Out S f i rs) : ∀ x ∈ rs.flatten, x ∈ S := by
  induction h with
  | zero => simp
  | skip _ _ _ ih => exact ih
  | ring _ e _ _ _ _ _ ih =>
    intro x hx
    rw [List.flatten_append] at hx
    rcases List.mem_append.mp hx with hx | hx
    · exact ih x hx
    · rw [List.flatten_cons, List.flatten_nil, List.append_nil] at hx
      obtain ⟨j, _, rfl⟩ := mem_itr.mp hx
      exact ht.pw (List.mem_of_getElem? e) j
theorem Out.nodup {S : List α} {f : α → α} {i : Nat} {rs : List (List α)} (h : Out S f i rs) : rs.flatten.Nodup := by
  induction h with
  | zero => simp
  | skip _ _ _ ih => exact ih
  | ring _ _ _ _ _ n o ih =>
    rw [List.flatten_append, List.flatten_cons, List.flatten_nil, List.append_nil, List.nodup_append]
    exact ⟨ih, n, fun a ha b hb e => o b hb (by rw [← e]; exact ha)⟩
theorem Out.has {S : List α} {f : α → α} {i : Nat} {rs : List (List α)} (h : Out S f i rs) : ∀ x ∈ S.take i, x ∈ rs.flatten := by
  induction h with
  | zero => simp
  | @skip i rs s h e m ih =>
    intro x hx
    rw [List.take_succ, e] at hx
    rcases List.mem_append.mp hx with hx | hx
    · exact ih x hx
    · have e2 : x = s := by simpa using hx
      rw [e2]; exact m
  | @ring i rs s k h e m hk p n o ih =>
    intro x hx
    rw [List.take_succ, e] at hx
    rw [List.flatten_append, List.flatten_cons, List.flatten_nil, List.append_nil]
    rcases List.mem_append.mp hx with hx | hx
    · exact List.mem_append_left _ (ih x hx)
    · have e2 : x = s := by simpa using hx
      rw [e2]
      exact List.mem_append_right _ (mem_itr.mpr ⟨0, hk, rfl⟩)
theorem Out.prev {S : List α} {f : α → α} (ht : Turns S f) {i : Nat} {rs : List (List α)} (h : Out S f i rs) {y : α} (hy : y ∈ S) (hf : f y ∈ rs.flatten) : y ∈ rs.flatten := by
  obtain ⟨r, hr, hx⟩ := List.mem_flatten.mp hf
  obtain ⟨z, hz, e⟩ := (h.rings r hr).prev hx
  have hzf : z ∈ rs.flatten := List.mem_flatten.mpr ⟨r, hr, hz⟩
  rw [ht.inj y hy z (h.sub ht z hzf) e.symm]
  exact hzf
/-- the walk from a side that is in no ring yet -/
structure Walk (S : List α) (f : α → α) (rs : List (List α)) (s : α) (k : Nat) : Prop where
  nd : (itr f s k).Nodup
  out : ∀ x ∈ itr f s k, x ∉ rs.flatten
theorem Walk.start {S : List α} {f : α → α} {rs : List (List α)} {s : α} : Walk S f rs s 0 := ⟨List.nodup_nil, fun x h => by cases h⟩
theorem Out.far {S : List α} {f : α → α} (ht : Turns S f) {i : Nat} {rs : List (List α)} (h : Out S f i rs) {s : α} (hs : s ∈ S) (hn : s ∉ rs.flatten) : ∀ k, pw f k s ∉ rs.flatten
  | 0 => hn
  | k + 1 => fun z => h.far ht hs hn k (h.prev ht (ht.pw hs k) z)
theorem Walk.go {S : List α} {f : α → α} {rs : List (List α)} {s : α} {k : Nat} (h : Walk S f rs s k) (hn : pw f k s ∉ rs.flatten ++ itr f s k) : Walk S f rs s (k + 1) := by
  rw [List.mem_append, not_or] at hn
  refine ⟨?_, fun x hx => ?_⟩
  · rw [itr_succ, List.nodup_append]
    exact ⟨h.nd, by simp, fun a ha b hb e => hn.2 (by rw [← List.mem_singleton.mp hb, ← e]; exact ha)⟩
  · rw [itr_succ] at hx
    rcases List.mem_append.mp hx with hx | hx
    · exact h.out x hx
    · rw [List.mem_singleton.mp hx]; exact hn.1
theorem Walk.stop {S : List α} {f : α → α} (ht : Turns S f) {i : Nat} {rs : List (List α)} {s : α} {k : Nat} (ho : Out S f i rs) (hs : S[i]? = some s) (hn : s ∉ rs.flatten) (h : Walk S f rs s k) (hm : pw f k s ∈ rs.flatten ++ itr f s k) : 0 < k ∧ Out S f (i + 1) (rs ++ [itr f s k]) := by
  have hS := List.mem_of_getElem? hs
  rcases List.mem_append.mp hm with hm | hm
  · exact absurd hm (ho.far ht hS hn k)
  · obtain ⟨m, hmk, e⟩ := mem_itr.mp hm
    have hk : 0 < k := by omega
    have e2 : pw f (k - m) s = s := ht.back hS m (by rw [show k - m + m = k by omega]; exact e.symm)
    have e3 : pw f k s = s := by
      cases m with
      | zero => exact e2
      | succ m =>
        have := itr_ne h.nd (show k - (m + 1) < k by omega) hk (e2.trans (show s = pw f 0 s from rfl))
        omega
    exact ⟨hk, .ring ho hs hn hk e3 h.nd h.out⟩
theorem Walk.len {S : List α} {f : α → α} (ht : Turns S f) {rs : List (List α)} {s : α} {k : Nat} (hs : s ∈ S) (h : Walk S f rs s k) : k ≤ S.length := by
  have := len_sub h.nd fun x hx => by
    obtain ⟨j, _, rfl⟩ := mem_itr.mp hx
    exact ht.pw hs j
  rwa [itr_len] at this
end

/-! ### corners at which a ring turns -/
def cornP (p : Sd) : List Sd → List Cl
  | [] => []
  | s :: w => (if going p ≠ going s then [s.1] else []) ++ cornP s w
theorem cornP_app (p : Sd) : ∀ u v : List Sd, cornP p (u ++ v) = cornP p u ++ cornP (u.getLastD p) v
  | [], v => rfl
  | s :: u, v => by
    show (if going p ≠ going s then [s.1] else []) ++ cornP s (u ++ v) = ((if going p ≠ going s then [s.1] else []) ++ cornP s u) ++ cornP ((s :: u).getLastD p) v
    rw [cornP_app s u v, List.append_assoc, List.getLastD_cons]
theorem corn_range (q : Sd) : ∀ (r : List Sd) (p : Sd), ((List.range r.length).filter fun i => decide (going ((p :: r).getD i q) ≠ going (r.getD i q))).map (fun i => (r.getD i q).1) = cornP p r
  | [], _ => rfl
  | s :: r, p => by
    have ih := corn_range q r s
    rw [List.length_cons, List.range_succ_eq_map, List.filter_cons, List.filter_map]
    show _ = (if going p ≠ going s then [s.1] else []) ++ cornP s r
    rw [← ih]
    have e1 : ((fun i => decide (going ((p :: s :: r).getD i q) ≠ going ((s :: r).getD i q))) ∘ Nat.succ) = fun i => decide (going ((s :: r).getD i q) ≠ going (r.getD i q)) := by
      funext i
      simp
    rw [e1]
    by_cases h : going p = going s
    · rw [if_neg (by simpa using h), if_neg (by simpa using h), List.map_map, List.nil_append]
      refine List.map_congr_left fun i _ => ?_
      simp
    · rw [if_pos (by simpa using h), if_pos h, List.map_cons, List.map_map, List.singleton_append]
      congr 1
/-- one way of the four -/
def unitC (d : Cl) : Prop := d = (1, 0) ∨ d = (0, 1) ∨ d = (-1, 0) ∨ d = (0, -1)
theorem Side.unit {cs : List Cl} {s : Sd} (h : Side cs s) : unitC (going s) := by
  cases h with
  | east i j _ _ => left; unfold going; exact Prod.ext (by simp only; omega) (by simp only; omega)
  | north i j _ _ => right; left; unfold going; exact Prod.ext (by simp only; omega) (by simp only; omega)
  | west i j _ _ => right; right; left; unfold going; exact Prod.ext (by simp only; omega) (by simp only; omega)
  | south i j _ _ => right; right; right; unfold going; exact Prod.ext (by simp only; omega) (by simp only; omega)
def onC (b d : Cl) (k : Int) : Cl := (b.1 + k * d.1, b.2 + k * d.2)
def stp (b d : Cl) (m : Nat) : List Sd := (List.range m).map fun (k : Nat) => (onC b d k, onC b d (k + 1))
theorem onC_zero (b d : Cl) : onC b d 0 = b := by unfold onC; exact Prod.ext (by simp only; omega) (by simp only; omega)
theorem onC_one (s : Sd) : onC s.1 (going s) 1 = s.2 := by unfold onC going; exact Prod.ext (by simp only; omega) (by simp only; omega)
theorem onC_add (b d : Cl) (j k : Int) : onC (onC b d j) d k = onC b d (j + k) := by
  unfold onC
  exact Prod.ext (by simp only [Int.add_mul]; omega) (by simp only [Int.add_mul]; omega)
theorem stp_one (s : Sd) : stp s.1 (going s) 1 = [s] := by
  show [(onC s.1 (going s) ((0 : Nat) : Int), onC s.1 (going s) ((0 : Nat) + 1))] = [s]
  rw [show ((0 : Nat) : Int) = 0 from rfl, onC_zero, Int.zero_add, onC_one]
theorem stp_cons (s : Sd) (m : Nat) : stp s.1 (going s) (m + 1) = s :: stp s.2 (going s) m := by
  unfold stp
  rw [List.range_succ_eq_map, List.map_cons, List.map_map]
  congr 1
  · rw [show ((0 : Nat) : Int) = 0 from rfl, onC_zero, Int.zero_add, onC_one]
  · refine List.map_congr_left fun k _ => ?_
    show (onC s.1 (going s) ((k + 1 : Nat) : Int), onC s.1 (going s) (((k + 1 : Nat) : Int) + 1)) = (onC s.2 (going s) k, onC s.2 (going s) (k + 1))
    rw [← onC_one s, onC_add, onC_add, show (1 : Int) + (k : Int) = ((k + 1 : Nat) : Int) by omega, show (1 : Int) + ((k : Int) + 1) = ((k + 1 : Nat) : Int) + 1 by omega]
/-- a straight run: where it begins, its way, how long it is -/
abbrev Leg := Cl × Cl × Nat
def Leg.sides (g : Leg) : List Sd := stp g.1 g.2.1 g.2.2
def Leg.last (g : Leg) : Cl := onC g.1 g.2.1 g.2.2
structure Legs (w : List Sd) (cs : List Cl) (e : Cl) (L : List Leg) : Prop where
  at_ : L.map (·.1) = cs
  sides : L.flatMap Leg.sides = w
  ok : ∀ g ∈ L, unitC g.2.1 ∧ 1 ≤ g.2.2
  next : ∀ i g, L[i]? = some g → g.last = (cs ++ [e]).getD (i + 1) e
def Linked : List Sd → Prop
  | [] => True
  | [_] => True
  | s :: t :: w => s.2 = t.1 ∧ Linked (t :: w)
theorem legs : ∀ (w : List Sd) (s : Sd), Linked (s :: w) → (∀ t ∈ s :: w, unitC (going t)) → ∃ L, Legs (s :: w) (s.1 :: cornP s w) (w.getLastD s).2 L ∧ ∃ m rest, L = (s.1, going s, m) :: rest
  | [], s, _, hu => ⟨[(s.1, going s, 1)], ⟨rfl, by show stp s.1 (going s) 1 ++ [] = [s]; rw [stp_one]; rfl, fun g hg => by
      rw [List.mem_singleton.mp hg]
      exact ⟨hu s List.mem_cons_self, Nat.le_refl _⟩, fun i g hg => by
      cases i with
      | zero =>
        obtain rfl : (s.1, going s, 1) = g := Option.some.inj hg
        exact onC_one s
      | succ i => simp at hg⟩, 1, [], rfl⟩
  | t :: w, s, hl, hu => by
    obtain ⟨h1, h2⟩ : s.2 = t.1 ∧ Linked (t :: w) := hl
    obtain ⟨L, hL, m, rest, e⟩ := legs w t h2 fun x hx => hu x (List.mem_cons_of_mem _ hx)
    have hs := hu s List.mem_cons_self
    rw [List.getLastD_cons]
    by_cases hg : going s = going t
    · refine ⟨(s.1, going s, m + 1) :: rest, ⟨?_, ?_, ?_, ?_⟩, m + 1, rest, rfl⟩
      · show s.1 :: rest.map (·.1) = s.1 :: ((if going s ≠ going t then [t.1] else []) ++ cornP t w)
        rw [if_neg (by simpa using hg), List.nil_append]
        have := hL.at_
        rw [e] at this
        injection this with _ this
        rw [this]
      · have := hL.sides
        rw [e, List.flatMap_cons] at this
        rw [List.flatMap_cons]
        show stp s.1 (going s) (m + 1) ++ _ = _
        rw [stp_cons, List.cons_append, h1, hg]
        exact congrArg _ this
      · intro g hgm
        rcases List.mem_cons.mp hgm with rfl | hgm
        · exact ⟨hs, by show 1 ≤ m + 1; omega⟩
        · exact hL.ok g (by rw [e]; exact List.mem_cons_of_mem _ hgm)
      · intro i g hi
        show g.last = ((s.1 :: ((if going s ≠ going t then [t.1] else []) ++ cornP t w)) ++ [_]).getD (i + 1) _
        rw [if_neg (by simpa using hg), List.nil_append]
        cases i with
        | zero =>
          obtain rfl : (s.1, going s, m + 1) = g := Option.some.inj hi
          have := hL.next 0 (t.1, going t, m) (by rw [e]; rfl)
          rw [List.cons_append, List.getD_cons_succ] at this ⊢
          rw [← this]
          show onC s.1 (going s) ((m + 1 : Nat) : Int) = onC t.1 (going t) m
          rw [← h1, ← onC_one s, hg, onC_add]
          congr 1
          omega
        | succ i =>
          have := hL.next (i + 1) g (by rw [e]; exact hi)
          rw [List.cons_append, List.getD_cons_succ] at this ⊢
          exact this
    · refine ⟨(s.1, going s, 1) :: L, ⟨?_, ?_, ?_, ?_⟩, 1, L, rfl⟩
      · show s.1 :: L.map (·.1) = s.1 :: ((if going s ≠ going t then [t.1] else []) ++ cornP t w)
        rw [if_pos hg, hL.at_]
        rfl
      · rw [List.flatMap_cons, hL.sides]
        show stp s.1 (going s) 1 ++ _ = _
        rw [stp_one]
        rfl
      · intro g hgm
        rcases List.mem_cons.mp hgm with rfl | hgm
        · exact ⟨hs, Nat.le_refl _⟩
        · exact hL.ok g hgm
      · intro i g hi
        show g.last = ((s.1 :: ((if going s ≠ going t then [t.1] else []) ++ cornP t w)) ++ [_]).getD (i + 1) _
        rw [if_pos hg]
        cases i with
        | zero =>
          obtain rfl : (s.1, going s, 1) = g := Option.some.inj hi
          show onC s.1 (going s) 1 = t.1
          rw [onC_one, h1]
        | succ i =>
          have := hL.next i g hi
          rw [List.cons_append, List.getD_cons_succ]
          exact this
theorem ltP_irr (a : Cl) : ltP a a = false := by unfold ltP; rw [if_pos rfl]; exact decide_eq_false (Int.lt_irrefl _)
theorem ltP_asym {a b : Cl} (h : ltP a b = true) : ltP b a = false := by
  unfold ltP at h ⊢
  by_cases e : a.1 = b.1
  · rw [if_pos e, decide_eq_true_eq] at h
    rw [if_pos e.symm]
    exact decide_eq_false (by omega)
  · rw [if_neg e, decide_eq_true_eq] at h
    rw [if_neg (fun z => e z.symm)]
    exact decide_eq_false (by omega)
theorem ltP_tri {a b : Cl} (h1 : ltP a b = false) (h2 : ltP b a = false) : a = b := by
  unfold ltP at h1 h2
  by_cases e : a.1 = b.1
  · rw [if_pos e, decide_eq_false_iff_not] at h1
    rw [if_pos e.symm, decide_eq_false_iff_not] at h2
    exact Prod.ext e (by omega)
  · rw [if_neg e, decide_eq_false_iff_not] at h1
    rw [if_neg (fun z => e z.symm), decide_eq_false_iff_not] at h2
    exact absurd (show a.1 = b.1 by omega) e
theorem ltP_trans {a b c : Cl} (h1 : ltP a b = true) (h2 : ltP b c = true) : ltP a c = true := by
  unfold ltP at h1 h2 ⊢
  by_cases e1 : a.1 = b.1
  · rw [if_pos e1, decide_eq_true_eq] at h1
    by_cases e2 : b.1 = c.1
    · rw [if_pos e2, decide_eq_true_eq] at h2
      rw [if_pos (by omega)]
      exact decide_eq_true (by omega)
    · rw [if_neg e2, decide_eq_true_eq] at h2
      rw [if_neg (by omega)]
      exact decide_eq_true (by omega)
  · rw [if_neg e1, decide_eq_true_eq] at h1
    by_cases e2 : b.1 = c.1
    · rw [if_neg (by omega)]
      exact decide_eq_true (by omega)
    · rw [if_neg e2, decide_eq_true_eq] at h2
      rw [if_neg (by omega)]
      exact decide_eq_true (by omega)

/-! ### the least corner of a ring -/
theorem least_in : ∀ l : List Sd, l ≠ [] → ∃ s ∈ l, ∀ t ∈ l, ltP t.1 s.1 = false
  | [], h => absurd rfl h
  | [a], _ => ⟨a, List.mem_cons_self, fun t ht => by rw [List.mem_singleton.mp ht]; exact ltP_irr _⟩
  | a :: b :: l, _ => by
    obtain ⟨m, hm, h⟩ := least_in (b :: l) (by simp)
    cases e : ltP a.1 m.1 with
    | true =>
      refine ⟨a, List.mem_cons_self, fun t ht => ?_⟩
      rcases List.mem_cons.mp ht with rfl | ht
      · exact ltP_irr _
      · cases e2 : ltP t.1 a.1 with
        | false => rfl
        | true =>
          have := h t ht
          rw [ltP_trans e2 e] at this
          cases this
    | false =>
      refine ⟨m, List.mem_cons_of_mem _ hm, fun t ht => ?_⟩
      rcases List.mem_cons.mp ht with rfl | ht
      · exact e
      · exact h t ht
theorem lt_west (i j : Int) : ltP (i - 1, j) (i, j) = true := by
  unfold ltP
  rw [if_neg (by simp only; omega)]
  exact decide_eq_true (by simp only; omega)
theorem lt_south (i j : Int) : ltP (i, j - 1) (i, j) = true := by
  unfold ltP
  rw [if_pos rfl]
  exact decide_eq_true (by simp only; omega)
/-- what begins at the least corner goes east or north, by what it is alone there -/
theorem least_out {cs : List Cl} {s t : Sd} (hs : Side cs s) (ht : Side cs t) (hl : ltP s.2 s.1 = false) (hl2 : ltP t.2 t.1 = false) (h : t.1 = s.1) : t = s := by
  cases hs with
  | east i j h1 h2 =>
    cases ht with
    | east u v g1 g2 => obtain ⟨rfl, rfl⟩ := Prod.mk.inj h; rfl
    | north u v g1 g2 => obtain ⟨rfl, rfl⟩ := Prod.mk.inj h; exact absurd h1 g2
    | west u v g1 g2 => rw [lt_west] at hl2; cases hl2
    | south u v g1 g2 => rw [lt_south] at hl2; cases hl2
  | north i j h1 h2 =>
    cases ht with
    | east u v g1 g2 => obtain ⟨rfl, rfl⟩ := Prod.mk.inj h; exact absurd g1 h2
    | north u v g1 g2 => obtain ⟨rfl, rfl⟩ := Prod.mk.inj h; rfl
    | west u v g1 g2 => rw [lt_west] at hl2; cases hl2
    | south u v g1 g2 => rw [lt_south] at hl2; cases hl2
  | west i j h1 h2 => rw [lt_west] at hl; cases hl
  | south i j h1 h2 => rw [lt_south] at hl; cases hl
/-- there the ring turns -/
theorem least_turn {cs : List Cl} {q s : Sd} (hq : Side cs q) (hs : Side cs s) (h : q.2 = s.1) (h1 : ltP q.1 q.2 = false) (h2 : ltP s.2 s.1 = false) : going q ≠ going s := by
  intro e
  have e1 : s.2.1 - s.1.1 = q.2.1 - q.1.1 := (congrArg Prod.fst e).symm
  have e2 : s.2.2 - s.1.2 = q.2.2 - q.1.2 := (congrArg Prod.snd e).symm
  cases hs with
  | east i j _ _ =>
    have a1 : q.2.1 = q.1.1 + 1 := by simp only at e1; omega
    have a2 : q.2.2 = q.1.2 := by simp only at e2; omega
    have := lt_west (q.1.1 + 1) q.1.2
    rw [Int.add_sub_cancel, ← a1, ← a2] at this
    have e3 : ((q.1.1, q.2.2) : Cl) = q.1 := by rw [a2]
    rw [e3] at this
    rw [this] at h1
    cases h1
  | north i j _ _ =>
    have a1 : q.2.1 = q.1.1 := by simp only at e1; omega
    have a2 : q.2.2 = q.1.2 + 1 := by simp only at e2; omega
    have := lt_south q.1.1 (q.1.2 + 1)
    rw [Int.add_sub_cancel, ← a2, ← a1] at this
    have e3 : ((q.2.1, q.1.2) : Cl) = q.1 := by rw [a1]
    rw [e3] at this
    rw [this] at h1
    cases h1
  | west i j _ _ => rw [lt_west] at h2; cases h2
  | south i j _ _ => rw [lt_south] at h2; cases h2
theorem pw_add {α : Type} [DecidableEq α] (f : α → α) (s : α) (i : Nat) : ∀ j, pw f j (pw f i s) = pw f (i + j) s
  | 0 => rfl
  | j + 1 => by
    show f (pw f j (pw f i s)) = f (pw f (i + j) s)
    rw [pw_add f s i j]
theorem itr_app {α : Type} [DecidableEq α] (f : α → α) (s : α) (i : Nat) : ∀ j, itr f s (i + j) = itr f s i ++ itr f (pw f i s) j
  | 0 => by simp [itr]
  | j + 1 => by
    rw [← Nat.add_assoc, itr_succ, itr_app f s i j, itr_succ, pw_add, List.append_assoc]
/-- a ring, begun elsewhere -/
theorem itr_turn {α : Type} [DecidableEq α] {f : α → α} {s : α} {k i : Nat} (h : pw f k s = s) (hi : i ≤ k) : itr f s k = itr f s i ++ itr f (pw f i s) (k - i) ∧ itr f (pw f i s) k = itr f (pw f i s) (k - i) ++ itr f s i := by
  constructor
  · have := itr_app f s i (k - i)
    rwa [show i + (k - i) = k by omega] at this
  · have := itr_app f (pw f i s) (k - i) i
    rw [show k - i + i = k by omega, pw_add, show i + (k - i) = k by omega, h] at this
    exact this
theorem itr_cons {α : Type} [DecidableEq α] (f : α → α) (s : α) (k : Nat) : itr f s (k + 1) = s :: itr f (f s) k := by
  have := itr_app f s 1 k
  rw [Nat.add_comm 1 k] at this
  exact this
theorem itr_last {α : Type} [DecidableEq α] (f : α → α) (s : α) (k : Nat) (d : α) : (itr f s (k + 1)).getLastD d = pw f k s := by
  rw [itr_succ, List.getLastD_concat]
theorem itr_linked {cs : List Cl} : ∀ (k : Nat) (s : Sd), Linked (itr (nx cs) s k)
  | 0, _ => trivial
  | 1, _ => trivial
  | k + 2, s => by
    rw [itr_cons, itr_cons]
    refine ⟨(nx_first s).symm, ?_⟩
    have := itr_linked (cs := cs) (k + 1) (nx cs s)
    rwa [itr_cons] at this

theorem glast {α : Type} : ∀ (u : List α) (a : α) (v : List α) (d : α), (u ++ a :: v).getLastD d = v.getLastD a
  | [], a, v, d => by rw [List.nil_append, List.getLastD_cons]
  | x :: u, a, v, d => by rw [List.cons_append, List.getLastD_cons]; exact glast u a v x
theorem mem_cornP {c : Cl} : ∀ {w : List Sd} {p : Sd}, c ∈ cornP p w → ∃ t ∈ w, t.1 = c
  | s :: w, p, h => by
    rcases List.mem_append.mp (show c ∈ (if going p ≠ going s then [s.1] else []) ++ cornP s w from h) with h | h
    · refine ⟨s, List.mem_cons_self, ?_⟩
      split at h
      · exact (List.mem_singleton.mp h).symm
      · cases h
    · obtain ⟨t, ht, e⟩ := mem_cornP h
      exact ⟨t, List.mem_cons_of_mem _ ht, e⟩
/-- a ring, told from its least corner on -/
structure Told (r : List Sd) (s : Sd) (u v : List Sd) (L : List Leg) : Prop where
  split : r = u ++ s :: v
  alone : ∀ t ∈ r, t.1 = s.1 → t = s
  least : ∀ t ∈ r, ltP t.1 s.1 = false
  corn : cornP (r.getLastD s) r = cornP (r.getLastD s) u ++ s.1 :: cornP s v
  out : s.1 ∉ cornP (r.getLastD s) u
  legs : Legs (s :: (v ++ u)) (s.1 :: (cornP s v ++ cornP (r.getLastD s) u)) s.1 L
theorem ring_told {cs : List Cl} {r : List Sd} (h : Ring (nx cs) r) (hs : ∀ x ∈ r, Side cs x) : ∃ s u v L, Told r s u v L := by
  obtain ⟨s0, k, hk, er, ek, nd⟩ := h.is
  have hne : r ≠ [] := fun z => by
    have := congrArg List.length er
    rw [z, itr_len] at this
    simp at this
    omega
  obtain ⟨s, hsr, hmin⟩ := least_in r hne
  obtain ⟨i, hi, es⟩ := mem_itr.mp (by rw [← er]; exact hsr)
  obtain ⟨t1, t2⟩ := itr_turn ek (Nat.le_of_lt hi)
  rw [es] at t1 t2
  obtain ⟨m, em⟩ : ∃ m, k - i = m + 1 := ⟨k - i - 1, by omega⟩
  obtain ⟨k', ek'⟩ : ∃ k', k = k' + 1 := ⟨k - 1, by omega⟩
  rw [em, itr_cons] at t1 t2
  have eper : pw (nx cs) k s = s := by
    rw [← es, pw_add, Nat.add_comm, ← pw_add, ek]
  generalize hu : itr (nx cs) s0 i = u at t1 t2
  generalize hv : itr (nx cs) (nx cs s) m = v at t1 t2
  have split : r = u ++ s :: v := by rw [er]; exact t1
  have nxr : ∀ t ∈ r, nx cs t ∈ r := fun t ht => h.next ht
  have h2 : ∀ t ∈ r, ltP t.2 s.1 = false := fun t ht => by rw [← nx_first (cs := cs) t]; exact hmin _ (nxr t ht)
  have alone : ∀ t ∈ r, t.1 = s.1 → t = s := fun t ht e => least_out (hs s hsr) (hs t ht) (h2 s hsr) (by rw [e]; exact h2 t ht) e
  have hlast : r.getLastD s = v.getLastD s := by rw [split]; exact glast u s v s
  have hq : nx cs (u.getLastD (r.getLastD s)) = s ∧ u.getLastD (r.getLastD s) ∈ r := by
    cases i with
    | zero =>
      have : u = [] := by rw [← hu]; rfl
      rw [this]
      show nx cs (r.getLastD s) = s ∧ r.getLastD s ∈ r
      have e1 : r.getLastD s = pw (nx cs) k' s0 := by rw [er, ek', itr_last]
      rw [e1]
      refine ⟨?_, by rw [er]; exact mem_itr.mpr ⟨k', by omega, rfl⟩⟩
      show pw (nx cs) (k' + 1) s0 = s
      rw [← ek', ek]
      exact es
    | succ i =>
      have e1 : u.getLastD (r.getLastD s) = pw (nx cs) i s0 := by rw [← hu, itr_last]
      rw [e1]
      exact ⟨es, by rw [er]; exact mem_itr.mpr ⟨i, by omega, rfl⟩⟩
  obtain ⟨q1, q2⟩ := hq
  have turn : going (u.getLastD (r.getLastD s)) ≠ going s := by
    have e2 : (u.getLastD (r.getLastD s)).2 = s.1 := by rw [← nx_first (cs := cs), q1]
    exact least_turn (hs _ q2) (hs s hsr) e2 (by rw [e2]; exact hmin _ q2) (h2 s hsr)
  have corn : cornP (r.getLastD s) r = cornP (r.getLastD s) u ++ s.1 :: cornP s v := by
    have := cornP_app (r.getLastD s) u (s :: v)
    rw [← split] at this
    rw [this]
    congr 1
    show (if _ then [s.1] else []) ++ cornP s v = _
    rw [if_pos turn]
    rfl
  have out : s.1 ∉ cornP (r.getLastD s) u := fun z => by
    obtain ⟨t, ht, e⟩ := mem_cornP z
    have := alone t (by rw [split]; exact List.mem_append_left _ ht) e
    rw [this] at ht
    rw [split, List.nodup_append] at nd
    exact nd.2.2 s ht s List.mem_cons_self rfl
  have lead : itr (nx cs) s k = s :: (v ++ u) := t2
  have hlk : Linked (s :: (v ++ u)) := by rw [← lead]; exact itr_linked k s
  have hun : ∀ t ∈ s :: (v ++ u), unitC (going t) := fun t ht => (hs t (by
    rw [split]
    rcases List.mem_cons.mp ht with rfl | ht
    · exact List.mem_append_right _ List.mem_cons_self
    · rcases List.mem_append.mp ht with ht | ht
      · exact List.mem_append_right _ (List.mem_cons_of_mem _ ht)
      · exact List.mem_append_left _ ht)).unit
  obtain ⟨L, hL, _⟩ := legs (v ++ u) s hlk hun
  have eend : ((v ++ u).getLastD s).2 = s.1 := by
    have e3 : (v ++ u).getLastD s = pw (nx cs) k' s := by
      have := itr_last (nx cs) s k' s
      rw [← ek', lead, List.getLastD_cons] at this
      exact this
    rw [e3, ← nx_first (cs := cs)]
    show (pw (nx cs) (k' + 1) s).1 = s.1
    rw [← ek', eper]
  rw [eend, cornP_app, ← hlast] at hL
  exact ⟨s, u, v, L, split, alone, hmin, corn, out, hL⟩
theorem cut_take {α : Type} {xs : List α} {n : Int} (h0 : 0 ≤ n) (h1 : n ≤ xs.length) : cutD xs none (some n) = xs.take n.toNat := by
  unfold cutD
  simp only [HT.sIx, List.drop_zero, Nat.sub_zero, if_neg (show ¬ n < 0 by omega)]
  congr 1
  omega
theorem cut_drop {α : Type} {xs : List α} {n : Int} (h0 : 0 ≤ n) (h1 : n ≤ xs.length) : cutD xs (some n) none = xs.drop n.toNat := by
  unfold cutD
  have e : min n.toNat xs.length = n.toNat := by omega
  simp only [HT.sIx, if_neg (show ¬ n < 0 by omega), e]
  exact List.take_of_length_le (by rw [List.length_drop]; exact Nat.le_refl _)

/-! ### all sides, the one that goes on found among them -/
def Sds (cs : List Cl) : List Sd := sortS (presides cs)
theorem S_data (cs : List Cl) : (Sds cs).map sD = sidesD cs := sortS_map _
theorem S_mem {cs : List Cl} {s : Sd} : s ∈ Sds cs ↔ Side cs s := (sortS_perm _).mem_iff.trans side_round
theorem S_turns (cs : List Cl) : Turns (Sds cs) (nx cs) := ⟨fun x hx => S_mem.mpr (nx_side (S_mem.mp hx)), fun x hx y hy e => nx_inj (S_mem.mp hx) (S_mem.mp hy) e⟩
theorem left_round {c : Cl} {s : Sd} (h : s ∈ roundCell c) : leftOf s = c := by
  obtain ⟨a, b⟩ := c
  have n1 : ∀ a b : Int, ((a, b) : Cl) = (1, 0) ↔ a = 1 ∧ b = 0 := fun a b => by rw [Prod.mk.injEq]
  have n2 : ∀ a b : Int, ((a, b) : Cl) = (0, 1) ↔ a = 0 ∧ b = 1 := fun a b => by rw [Prod.mk.injEq]
  have n3 : ∀ a b : Int, ((a, b) : Cl) = (-1, 0) ↔ a = -1 ∧ b = 0 := fun a b => by rw [Prod.mk.injEq]
  simp only [roundCell, List.mem_cons, List.not_mem_nil, or_false] at h
  rcases h with rfl | rfl | rfl | rfl <;> simp only [leftOf, going, n1, n2, n3]
  · rw [if_neg (by omega), if_neg (by omega), if_neg (by omega)]
    exact Prod.ext rfl (by simp only; omega)
  · rw [if_pos (by omega)]
  · rw [if_neg (by omega), if_pos (by omega)]
    exact Prod.ext (by simp only; omega) rfl
  · rw [if_neg (by omega), if_neg (by omega), if_pos (by omega)]
    exact Prod.ext (by simp only; omega) (by simp only; omega)
theorem round_nodup (c : Cl) : (roundCell c).Nodup := by
  obtain ⟨a, b⟩ := c
  simp only [roundCell, List.nodup_cons, List.mem_cons, List.not_mem_nil, or_false, Prod.mk.injEq, not_or, List.nodup_nil, not_false_eq_true, and_true]
  omega
theorem presides_nodup {cs : List Cl} (h : cs.Nodup) : (presides cs).Nodup := by
  unfold presides
  show List.Pairwise (· ≠ ·) _
  rw [List.pairwise_flatMap]
  refine ⟨fun c _ => (round_nodup c).filter _, h.imp fun {a b} hab x hx y hy e => hab ?_⟩
  have h1 := left_round (List.mem_filter.mp hx).1
  have h2 := left_round (List.mem_filter.mp hy).1
  rw [← h1, ← h2, e]
theorem S_nodup {cs : List Cl} (h : cs.Nodup) : (Sds cs).Nodup := (sortS_perm _).nodup_iff.mpr (presides_nodup h)
theorem S_len {cs : List Cl} (h : cs.length ≤ 49) : (Sds cs).length ≤ 196 := by
  have := presides_len cs
  rw [show (Sds cs).length = (presides cs).length from (sortS_perm _).length_eq]
  omega
def atC (L : List Sd) (c : Cl) : List Sd := L.filter fun t => decide (t.1 = c)
theorem mem_atC {L : List Sd} {c : Cl} {t : Sd} : t ∈ atC L c ↔ t ∈ L ∧ t.1 = c := by unfold atC; rw [List.mem_filter, decide_eq_true_eq]
theorem nx_atC {cs : List Cl} {s : Sd} (h : Side cs s) : nx cs s ∈ atC (Sds cs) s.2 := mem_atC.mpr ⟨S_mem.mpr (nx_side h), nx_first s⟩
theorem lt_in {cs : List Cl} {s : Sd} (h : Side cs s) (hl : lt s ∈ atC (Sds cs) s.2) : nx cs s = lt s := left_on h (S_mem.mp (mem_atC.mp hl).1)
theorem lt_out {cs : List Cl} {s : Sd} (h : Side cs s) (hl : lt s ∉ atC (Sds cs) s.2) : ∀ t ∈ atC (Sds cs) s.2, t = nx cs s := fun t ht => by
  obtain ⟨h1, h2⟩ := mem_atC.mp ht
  exact nx_of h (S_mem.mp h1) h2 fun z => hl (mem_atC.mpr ⟨S_mem.mpr z, rfl⟩)
theorem one_at {cs : List Cl} {s : Sd} (h : Side cs s) (hl : (atC (Sds cs) s.2).length = 1) : atC (Sds cs) s.2 = [nx cs s] := by
  obtain ⟨t, e⟩ := List.length_eq_one_iff.mp hl
  have := nx_atC h
  rw [e] at this ⊢
  rw [List.mem_singleton.mp this]
theorem more_at {cs : List Cl} (hn : cs.Nodup) {s : Sd} (h : Side cs s) (hl : (atC (Sds cs) s.2).length ≠ 1) : nx cs s = lt s := by
  refine Classical.byContradiction fun z => hl ?_
  have hlt : lt s ∉ atC (Sds cs) s.2 := fun q => z (lt_in h q)
  have hall := lt_out h hlt
  have nd : (atC (Sds cs) s.2).Nodup := (S_nodup hn).filter _
  have hm := nx_atC h
  match e : atC (Sds cs) s.2 with
  | [] => rw [e] at hm; cases hm
  | [t] => rfl
  | t :: u :: l =>
    rw [e] at hall nd
    have e1 := hall t List.mem_cons_self
    have e2 := hall u (List.mem_cons_of_mem _ List.mem_cons_self)
    rw [e1, e2] at nd
    simp at nd
/-! ### dicts by keys of any kind -/
section
variable {β : Type} [DecidableEq β]
def vK (κ : β → NestedKey) (f : β → SV) (xs : List β) : List (NestedKey × SV) := xs.map fun a => (κ a, f a)
variable {κ : β → NestedKey} (hκ : ∀ a b, κ a = κ b → a = b)
include hκ
theorem vK_look {f : β → SV} {c : β} : ∀ {xs : List β}, c ∈ xs → lookS (vK κ f xs) (κ c) = some (f c)
  | d :: xs, h => by
    show lookS ((κ d, f d) :: vK κ f xs) (κ c) = _
    by_cases e : d = c
    · rw [e]; exact look_hit
    · rw [look_miss (fun z => e (hκ _ _ z))]
      exact vK_look ((List.mem_cons.mp h).resolve_left fun z => e z.symm)
theorem vK_out {f : β → SV} {c : β} : ∀ {xs : List β}, c ∉ xs → lookS (vK κ f xs) (κ c) = none
  | [], _ => rfl
  | d :: xs, h => by
    show lookS ((κ d, f d) :: vK κ f xs) (κ c) = _
    rw [look_miss (fun z => h (by rw [hκ _ _ z]; exact List.mem_cons_self))]
    exact vK_out fun z => h (List.mem_cons_of_mem _ z)
theorem vK_is (f : β → SV) (c : β) (xs : List β) : (lookS (vK κ f xs) (κ c)).isSome = decide (c ∈ xs) := by
  by_cases h : c ∈ xs
  · rw [vK_look hκ h, decide_eq_true h]; rfl
  · rw [vK_out hκ h, decide_eq_false h]; rfl
theorem vK_new {f : β → SV} {c : β} {xs : List β} {v : SV} (h : c ∉ xs) (hv : f c = v) : putS (vK κ f xs) (κ c) v = vK κ f (xs ++ [c]) := by
  have : ((vK κ f xs).any fun kv => decide (kv.1 = κ c)) = false := by
    rw [List.any_eq_false]
    intro x hx
    obtain ⟨d, hd, rfl⟩ := List.mem_map.mp hx
    simp only [decide_eq_true_eq]
    exact fun z => h (by rw [← hκ _ _ z]; exact hd)
  unfold putS
  rw [this]
  simp [vK, hv]
end
theorem first_at {n m : Nat} {p : Nat → Bool} (hm : m < n) (h0 : ∀ i, i < m → p i = false) (h1 : p m = true) : ∃ rest, (List.range n).filter p = m :: rest := by
  obtain ⟨c, rfl⟩ : ∃ c, n = m + (c + 1) := ⟨n - m - 1, by omega⟩
  rw [List.range_add, List.filter_append, List.range_succ_eq_map, List.map_cons, List.filter_cons, Nat.add_zero, if_pos h1]
  rw [List.filter_eq_nil_iff.mpr fun i hi => by rw [h0 i (List.mem_range.mp hi)]; exact Bool.false_ne_true]
  exact ⟨_, rfl⟩
def cK (c : Cl) : NestedKey := .tup [.num c.1, .num c.2]
theorem cK_inj (a b : Cl) (h : cK a = cK b) : a = b := by
  unfold cK at h
  simp only [NestedKey.tup.injEq, List.cons.injEq, NestedKey.num.injEq, and_true] at h
  exact Prod.ext h.1 h.2
def sK (s : Sd) : NestedKey := .tup [cK s.1, cK s.2]
theorem sK_inj (a b : Sd) (h : sK a = sK b) : a = b := by
  unfold sK at h
  simp only [NestedKey.tup.injEq, List.cons.injEq, and_true] at h
  exact Prod.ext (cK_inj _ _ h.1) (cK_inj _ _ h.2)
theorem cK_key (c : Cl) : KeyS (.dat (cD c)) (cK c) := ⟨rfl, ⟨_, rfl⟩, by simp [cK, NestedKey.depth, NestedKey.depthAll]⟩
theorem sK_key (s : Sd) : KeyS (.dat (sD s)) (sK s) := ⟨rfl, ⟨_, rfl⟩, by simp [sK, cK, NestedKey.depth, NestedKey.depthAll]⟩
theorem atI_last {α : Type} {xs : List α} (h : xs ≠ []) : atI xs (-1) = some (xs.getLast h) := by
  have hp : 0 < xs.length := List.length_pos_iff.mpr h
  have e : ixN xs.length (-1) = some (xs.length - 1) := by
    unfold ixN
    rw [if_neg (by decide), if_pos (by omega)]
    congr 1
    omega
  unfold atI
  rw [e, List.getLast_eq_getElem]
  exact List.getElem?_eq_getElem (by omega)

theorem at_before (s : Sd) {r : List Sd} {i : Nat} (h : i < r.length) : atI ((r.map sD).map SV.dat) (0 + (i : Int) - 1) = some (.dat (sD ((r.getLastD s :: r).getD i s))) := by
  rw [atI_map, atI_map]
  cases i with
  | zero =>
    have hne : r ≠ [] := List.length_pos_iff.mp h
    rw [show (0 : Int) + ((0 : Nat) : Int) - 1 = -1 from rfl, atI_last hne]
    have e : r.getLastD s = r.getLast hne := by rw [List.getLastD_eq_getLast?, List.getLast?_eq_getLast hne]; rfl
    show _ = some (SV.dat (sD (r.getLastD s)))
    rw [e]
    rfl
  | succ i =>
    rw [atI_at (x := r.getD i s) (by omega) (by
      rw [show (0 + ((i + 1 : Nat) : Int) - 1).toNat = i by omega, List.getD_eq_getElem?_getD, List.getElem?_eq_getElem (by omega)]
      rfl)]
    rfl
theorem at_here (s : Sd) {r : List Sd} {i : Nat} (h : i < r.length) : atI ((r.map sD).map SV.dat) (0 + (i : Int)) = some (.dat (sD (r.getD i s))) := by
  rw [atI_map, atI_map, atI_at (x := r.getD i s) (by omega) (by
      rw [show (0 + (i : Int)).toNat = i by omega, List.getD_eq_getElem?_getD, List.getElem?_eq_getElem h]
      rfl)]
  rfl
def cornN (r : List Sd) (s : Sd) (i : Nat) : List Cl := ((List.range i).filter fun i => decide (going ((r.getLastD s :: r).getD i s) ≠ going (r.getD i s))).map fun i => (r.getD i s).1
theorem cornN_all (r : List Sd) (s : Sd) : cornN r s r.length = cornP (r.getLastD s) r := corn_range s r _
theorem cornN_succ (r : List Sd) (s : Sd) (i : Nat) : cornN r s (i + 1) = cornN r s i ++ (if going ((r.getLastD s :: r).getD i s) ≠ going (r.getD i s) then [(r.getD i s).1] else []) := by
  unfold cornN
  rw [List.range_succ, List.filter_append, List.map_append, List.filter_cons, List.filter_nil]
  congr 1
  by_cases h : going ((r.getLastD s :: r).getD i s) = going (r.getD i s)
  · rw [if_neg (by rw [decide_eq_true_eq]; exact fun z => z h), if_neg (fun z => z h)]
    rfl
  · rw [if_pos (decide_eq_true h), if_pos h]
    rfl
theorem cornN_len (r : List Sd) (s : Sd) (i : Nat) : (cornN r s i).length ≤ i := by
  unfold cornN
  rw [List.length_map]
  exact Nat.le_trans (List.length_filter_le _ _) (by rw [List.length_range]; exact Nat.le_refl _)
theorem at_beforeD (s : Sd) {r : List Sd} {i : Nat} (h : i < r.length) : atI (r.map sD) ((i : Int) - 1) = some (sD ((r.getLastD s :: r).getD i s)) := by
  rw [atI_map]
  cases i with
  | zero =>
    have hne : r ≠ [] := List.length_pos_iff.mp h
    rw [show ((0 : Nat) : Int) - 1 = -1 from rfl, atI_last hne]
    have e : r.getLastD s = r.getLast hne := by rw [List.getLastD_eq_getLast?, List.getLast?_eq_getLast hne]; rfl
    show _ = some (sD (r.getLastD s))
    rw [e]
    rfl
  | succ i =>
    rw [atI_at (x := r.getD i s) (by omega) (by
      rw [show (((i + 1 : Nat) : Int) - 1).toNat = i by omega, List.getD_eq_getElem?_getD, List.getElem?_eq_getElem (by omega)]
      rfl)]
    rfl
theorem at_hereD (s : Sd) {r : List Sd} {i : Nat} (h : i < r.length) : atI (r.map sD) (i : Int) = some (sD (r.getD i s)) := by
  rw [atI_map, atI_at (x := r.getD i s) (by omega) (by
      rw [Int.toNat_natCast, List.getD_eq_getElem?_getD, List.getElem?_eq_getElem h]
      rfl)]
  rfl
/-! ### the least of some corners -/
def minC (a : Cl) (xs : List Cl) : Cl := xs.foldl (fun m y => if ltP y m then y else m) a
theorem lt_cD (a b : Cl) : PySem.W.dataLt (cD a) (cD b) = ltP a b := by
  have e0 : ∀ i j : Int, PyData.eqv (.int i) (.int j) = decide (i = j) := fun i j => eq_int i j
  unfold cD ltP
  rw [PySem.W.dataLt_tuple]
  by_cases h : a.1 = b.1
  · rw [PySem.W.dataLt_all_yes rfl (by rw [e0, decide_eq_true h]), if_pos h]
    by_cases h2 : a.2 = b.2
    · rw [PySem.W.dataLt_all_yes rfl (by rw [e0, decide_eq_true h2]), decide_eq_false (by omega)]
      rfl
    · rw [PySem.W.dataLt_all_no rfl (by rw [e0, decide_eq_false h2]), PySem.W.dataLt_int]
  · rw [PySem.W.dataLt_all_no rfl (by rw [e0, decide_eq_false h]), PySem.W.dataLt_int, if_neg h]
theorem minD_cells : ∀ (xs : List Cl) (a : Cl), PySem.W.minD (cD a) (xs.map cD) = cD (minC a xs)
  | [], _ => rfl
  | x :: xs, a => by
    show PySem.W.minD (if PySem.W.dataLt (cD x) (cD a) then cD x else cD a) (xs.map cD) = cD (minC (if ltP x a then x else a) xs)
    rw [lt_cD]
    cases ltP x a with
    | true => exact minD_cells xs x
    | false => exact minD_cells xs a
theorem minC_is : ∀ (xs : List Cl) (a : Cl), minC a xs ∈ a :: xs ∧ ∀ y ∈ a :: xs, ltP y (minC a xs) = false
  | [], a => ⟨List.mem_cons_self, fun y hy => by rw [List.mem_singleton.mp hy]; exact ltP_irr a⟩
  | x :: xs, a => by
    show minC (if ltP x a then x else a) xs ∈ _ ∧ ∀ y ∈ _, ltP y (minC (if ltP x a then x else a) xs) = false
    cases e : ltP x a with
    | true =>
      rw [if_pos rfl]
      obtain ⟨h1, h2⟩ := minC_is xs x
      refine ⟨List.mem_cons_of_mem _ h1, fun y hy => ?_⟩
      rcases List.mem_cons.mp hy with rfl | hy
      · cases e2 : ltP y (minC x xs) with
        | false => rfl
        | true =>
          have := h2 x List.mem_cons_self
          rw [ltP_trans e e2] at this
          cases this
      · exact h2 y hy
    | false =>
      rw [if_neg Bool.false_ne_true]
      obtain ⟨h1, h2⟩ := minC_is xs a
      refine ⟨?_, fun y hy => ?_⟩
      · rcases List.mem_cons.mp h1 with h1 | h1
        · rw [h1]; exact List.mem_cons_self
        · exact List.mem_cons_of_mem _ (List.mem_cons_of_mem _ h1)
      · rcases List.mem_cons.mp hy with rfl | hy
        · exact h2 y List.mem_cons_self
        · rcases List.mem_cons.mp hy with rfl | hy
          · cases e2 : ltP y (minC a xs) with
            | false => rfl
            | true =>
              have h3 := h2 a List.mem_cons_self
              by_cases e4 : a = minC a xs
              · rw [← e4, e] at e2; cases e2
              · cases e5 : ltP (minC a xs) a with
                | false => exact absurd (ltP_tri h3 e5) e4
                | true => rw [ltP_trans e2 e5] at e; cases e
          · exact h2 y (List.mem_cons_of_mem _ hy)
/-- the least is the one that none is less than -/
theorem minC_one {a : Cl} {xs : List Cl} {m : Cl} (hm : m ∈ a :: xs) (h : ∀ y ∈ a :: xs, ltP y m = false) : minC a xs = m := by
  obtain ⟨h1, h2⟩ := minC_is xs a
  exact ltP_tri (h _ h1) (h2 m hm)

theorem cornP_len : ∀ (w : List Sd) (p : Sd), (cornP p w).length ≤ w.length
  | [], _ => Nat.le_refl _
  | s :: w, p => by
    have ih := cornP_len w s
    show ((if going p ≠ going s then [s.1] else []) ++ cornP s w).length ≤ _
    rw [List.length_append, List.length_cons]
    split <;> simp <;> omega
theorem cD_nd (c : Cl) : (cD c).hasDict = false := by simp [cD, PyData.hasDict, PyData.hasDictAll]
theorem cw_minC {K : PySem.W.Frag} {A : Amb} {k : KA} {xs : List Cl} {m : Cl} (hm : m ∈ xs) (h : ∀ y ∈ xs, ltP y m = false) (hk : k A (.dat (cD m))) : CW K (rMinD K) [.dat (.list (xs.map cD))] A k := by
  cases xs with
  | nil => cases hm
  | cons a xs =>
    refine cw_minL (alike_all (ds := (a :: xs).map cD) (PySem.W.AllAlike.of fun a b => by simp [cD, PySem.W.alike, PySem.W.alikeAll]) fun d hd => by
      obtain ⟨c, _, rfl⟩ := List.mem_map.mp hd
      simp [cD]) (Nat.le_trans (depthAll_map cD_depth (a :: xs)) (by decide)) ?_
    rw [minD_cells, minC_one hm h]
    exact hk

theorem cw_minCP {K : PySem.W.Frag} {A : Amb} {k : KA} {p : Addr} {xs : List Cl} {m : Cl} (hp : (p, .lst ((xs.map cD).map .dat)) ∈ A.cells) (hm : m ∈ xs) (h : ∀ y ∈ xs, ltP y m = false) (hk : k A (.dat (cD m))) : CW K (rMinD K) [.ptr p] A k := by
  cases xs with
  | nil => cases hm
  | cons a xs =>
    refine cw_minP (x := cD a) (ds := xs.map cD) hp (alike_all (ds := (a :: xs).map cD) (PySem.W.AllAlike.of fun a b => by simp [cD, PySem.W.alike, PySem.W.alikeAll]) fun d hd => by
      obtain ⟨c, _, rfl⟩ := List.mem_map.mp hd
      simp [cD]) (Nat.le_trans (depthAll_map cD_depth (a :: xs)) (by decide)) ?_
    rw [minD_cells, minC_one hm h]
    exact hk

/-! ### the sides from a corner straight on -/
def cnr (b d : Cl) (m : Nat) : List Cl := (List.range (m + 1)).map fun (k : Nat) => onC b d k
theorem cnr_zip (b d : Cl) (m : Nat) : zipD ((cnr b d m).map cD) (((cnr b d m).map cD).drop 1) = (stp b d m).map sD := by
  unfold zipD
  refine List.ext_getElem? fun i => ?_
  rw [List.getElem?_map, List.getElem?_map]
  by_cases hi : i < m
  · have e1 : ((cnr b d m).map cD)[i]? = some (cD (onC b d i)) := by
      unfold cnr
      rw [List.getElem?_map, List.getElem?_map, List.getElem?_range (by omega)]
      rfl
    have e2 : (((cnr b d m).map cD).drop 1)[i]? = some (cD (onC b d (i + 1))) := by
      unfold cnr
      rw [List.getElem?_drop, List.getElem?_map, List.getElem?_map, List.getElem?_range (by omega)]
      show some (cD (onC b d ((1 + i : Nat) : Int))) = _
      rw [show ((1 + i : Nat) : Int) = (i : Int) + 1 by omega]
    rw [List.getElem?_zip_eq_some (z := (cD (onC b d i), cD (onC b d (i + 1)))) |>.mpr ⟨e1, e2⟩]
    unfold stp
    rw [List.getElem?_map, List.getElem?_range hi]
    rfl
  · have e1 : (((cnr b d m).map cD).drop 1).length = m := by
      unfold cnr
      rw [List.length_drop, List.length_map, List.length_map, List.length_range]
      omega
    rw [List.getElem?_eq_none (by rw [List.length_zip, e1]; omega), List.getElem?_eq_none (by unfold stp; rw [List.length_map, List.length_range]; omega)]
    rfl
theorem unit_abs {d : Cl} (h : unitC d) (m : Nat) : (if (m : Int) * d.1 < 0 then -((m : Int) * d.1) else (m : Int) * d.1) + (if (m : Int) * d.2 < 0 then -((m : Int) * d.2) else (m : Int) * d.2) = m := by
  rcases h with rfl | rfl | rfl | rfl
  · simp only [Int.mul_one, Int.mul_zero]
    rw [if_neg (by omega), if_neg (by omega)]
    omega
  · simp only [Int.mul_one, Int.mul_zero]
    rw [if_neg (by omega), if_neg (by omega)]
    omega
  · simp only [Int.mul_neg, Int.mul_one, Int.mul_zero]
    by_cases h : -(m : Int) < 0
    · rw [if_pos h, if_neg (by omega)]
      omega
    · rw [if_neg h, if_neg (by omega)]
      omega
  · simp only [Int.mul_neg, Int.mul_one, Int.mul_zero]
    by_cases h : -(m : Int) < 0
    · rw [if_neg (by omega), if_pos h]
      omega
    · rw [if_neg (by omega), if_neg h]
      omega
theorem part_div {m : Nat} (h : 1 ≤ m) (d k : Int) : (m : Int) * d * k / m = k * d := by
  rw [Int.mul_assoc, Int.mul_ediv_cancel_left _ (by omega), Int.mul_comm]
theorem unit_one {d : Cl} (h : unitC d) : -1 ≤ d.1 ∧ d.1 ≤ 1 ∧ -1 ≤ d.2 ∧ d.2 ≤ 1 := by
  rcases h with rfl | rfl | rfl | rfl <;> decide
/-! ### corners tell the runs -/
theorem leg_one {g h : Leg} (e1 : g.1 = h.1) (e2 : g.last = h.last) (u1 : unitC g.2.1) (u2 : unitC h.2.1) (m1 : 1 ≤ g.2.2) (m2 : 1 ≤ h.2.2) : g = h := by
  obtain ⟨b, d, m⟩ := g
  obtain ⟨b2, d2, m2'⟩ := h
  simp only at e1 u1 u2 m1 m2
  subst e1
  unfold Leg.last onC at e2
  simp only [Prod.mk.injEq] at e2
  obtain ⟨e3, e4⟩ := e2
  have a1 : (m : Int) * d.1 = m2' * d2.1 := by omega
  have a2 : (m : Int) * d.2 = m2' * d2.2 := by omega
  have : d = d2 ∧ m = m2' := by
    rcases u1 with rfl | rfl | rfl | rfl <;> rcases u2 with rfl | rfl | rfl | rfl <;> simp only [Int.mul_one, Int.mul_zero, Int.mul_neg] at a1 a2 <;> first | exact ⟨rfl, by omega⟩ | omega
  rw [this.1, this.2]
theorem Legs.one {w w' : List Sd} {cs : List Cl} {e : Cl} {L L' : List Leg} (h : Legs w cs e L) (h' : Legs w' cs e L') : w = w' := by
  have hl : L.length = L'.length := by rw [← List.length_map (·.1) (as := L), ← List.length_map (·.1) (as := L'), h.at_, h'.at_]
  have : L = L' := by
    refine List.ext_getElem? fun i => ?_
    by_cases hi : i < L.length
    · have g1 : L[i]? = some L[i] := List.getElem?_eq_getElem hi
      have g2 : L'[i]? = some (L'[i]'(by omega)) := List.getElem?_eq_getElem (by omega)
      rw [g1, g2]
      congr 1
      have c1 : (L.map (·.1))[i]? = some L[i].1 := by rw [List.getElem?_map, g1]; rfl
      have c2 : (L'.map (·.1))[i]? = some (L'[i]'(by omega)).1 := by rw [List.getElem?_map, g2]; rfl
      rw [h.at_] at c1
      rw [h'.at_, c1] at c2
      have o1 := h.ok _ (List.getElem_mem hi)
      have o2 := h'.ok _ (List.getElem_mem (by omega : i < L'.length))
      exact leg_one (Option.some.inj c2) ((h.next i _ g1).trans (h'.next i _ g2).symm) o1.1 o2.1 o1.2 o2.2
    · rw [List.getElem?_eq_none (by omega), List.getElem?_eq_none (by omega)]
  rw [← h.sides, ← h'.sides, this]
open Classical in
/-- the corners at which a ring turns, from the least on -/
noncomputable def tk (r : List Sd) : List Cl := if h : ∃ c : List Cl, ∃ s u v L, Told r s u v L ∧ c = s.1 :: (cornP s v ++ cornP (r.getLastD s) u) then h.choose else []
theorem tk_spec {r : List Sd} (h : ∃ s u v L, Told r s u v L) : ∃ s u v L, Told r s u v L ∧ tk r = s.1 :: (cornP s v ++ cornP (r.getLastD s) u) := by
  obtain ⟨s, u, v, L, ht⟩ := h
  have : ∃ c : List Cl, ∃ s u v L, Told r s u v L ∧ c = s.1 :: (cornP s v ++ cornP (r.getLastD s) u) := ⟨_, s, u, v, L, ht, rfl⟩
  unfold tk
  rw [dif_pos this]
  exact this.choose_spec
theorem told_mem {r : List Sd} {s : Sd} {u v : List Sd} {L : List Leg} (h : Told r s u v L) {x : Sd} : x ∈ s :: (v ++ u) ↔ x ∈ r := by
  rw [h.split, List.mem_cons, List.mem_append, List.mem_append, List.mem_cons]
  constructor
  · rintro (a | a | a)
    · exact .inr (.inl a)
    · exact .inr (.inr a)
    · exact .inl a
  · rintro (a | a | a)
    · exact .inr (.inr a)
    · exact .inl a
    · exact .inr (.inl a)
/-- unlike rings, unlike corners -/
theorem tk_share {r q : List Sd} (hr : ∃ s u v L, Told r s u v L) (hq : ∃ s u v L, Told q s u v L) (h : tk r = tk q) : ∃ x, x ∈ r ∧ x ∈ q := by
  obtain ⟨s, u, v, L, ht, e⟩ := tk_spec hr
  obtain ⟨s2, u2, v2, L2, ht2, e2⟩ := tk_spec hq
  rw [e, e2] at h
  have hs : s.1 = s2.1 := (List.cons.inj h).1
  have g1 := ht.legs
  have g2 := ht2.legs
  rw [h, hs] at g1
  have hw := g1.one g2
  refine ⟨s, (told_mem ht).mp List.mem_cons_self, (told_mem ht2).mp ?_⟩
  rw [← hw]
  exact List.mem_cons_self
theorem tks_nodup : ∀ {rs : List (List Sd)}, rs.flatten.Nodup → (∀ r ∈ rs, ∃ s u v L, Told r s u v L) → (rs.map tk).Nodup
  | [], _, _ => List.nodup_nil
  | r :: rs, h, ht => by
    rw [List.flatten_cons, List.nodup_append] at h
    rw [List.map_cons, List.nodup_cons]
    refine ⟨fun z => ?_, tks_nodup h.2.1 fun q hq => ht q (List.mem_cons_of_mem _ hq)⟩
    obtain ⟨q, hq, e⟩ := List.mem_map.mp z
    obtain ⟨x, h1, h2⟩ := tk_share (ht q (List.mem_cons_of_mem _ hq)) (ht r List.mem_cons_self) e
    exact h.2.2 x h2 x (List.mem_flatten.mpr ⟨q, hq, h1⟩) rfl
/-! ### lists by corners -/
def CL (S : List Sd) (ts : List (Cl × Addr)) : List (Addr × Cell) := ts.map fun t => (t.2, .lst (((atC S t.1).map sD).map .dat))
def CK (ts : List (Cl × Addr)) : List (NestedKey × SV) := ts.reverse.map fun t => (cK t.1, .ptr t.2)
theorem atC_app (S : List Sd) (s : Sd) (c : Cl) : atC (S ++ [s]) c = atC S c ++ (if s.1 = c then [s] else []) := by
  unfold atC
  rw [List.filter_append, List.filter_cons, List.filter_nil]
  by_cases h : s.1 = c <;> simp [h]
theorem CL_other {S : List Sd} {s : Sd} : ∀ {ts : List (Cl × Addr)}, s.1 ∉ ts.map (·.1) → CL (S ++ [s]) ts = CL S ts
  | [], _ => rfl
  | t :: ts, h => by
    rw [List.map_cons, List.mem_cons, not_or] at h
    show (t.2, _) :: CL (S ++ [s]) ts = (t.2, _) :: CL S ts
    rw [CL_other h.2, atC_app, if_neg h.1, List.append_nil]
theorem CL_upd {S : List Sd} {s : Sd} {p : Addr} {rest : List (Addr × Cell)} : ∀ {ts : List (Cl × Addr)}, (ts.map (·.1)).Nodup → (s.1, p) ∈ ts →
    Upd (CL S ts ++ rest) p (.lst (((atC S s.1).map sD).map .dat)) (.lst (((atC S s.1).map sD).map .dat ++ [.dat (sD s)])) (CL (S ++ [s]) ts ++ rest)
  | t :: ts, nd, h => by
    rw [List.map_cons, List.nodup_cons] at nd
    rcases List.mem_cons.mp h with h | h
    · subst h
      have e := CL_other (S := S) nd.1
      show Upd ((p, _) :: (CL S ts ++ rest)) p _ _ ((p, _) :: (CL (S ++ [s]) ts ++ rest))
      rw [e]
      have e2 : (Cell.lst (((atC (S ++ [s]) s.1).map sD).map .dat)) = .lst (((atC S s.1).map sD).map .dat ++ [.dat (sD s)]) := by
        rw [atC_app, if_pos rfl, List.map_append, List.map_append]
        rfl
      show Upd ((p, Cell.lst (((atC S s.1).map sD).map .dat)) :: _) p _ _ ((p, Cell.lst (((atC (S ++ [s]) s.1).map sD).map .dat)) :: _)
      rw [e2]
      exact .head
    · have hne : s.1 ≠ t.1 := fun e => nd.1 (by rw [← e]; exact List.mem_map.mpr ⟨_, h, rfl⟩)
      show Upd ((t.2, Cell.lst (((atC S t.1).map sD).map .dat)) :: (CL S ts ++ rest)) p _ _ ((t.2, Cell.lst (((atC (S ++ [s]) t.1).map sD).map .dat)) :: (CL (S ++ [s]) ts ++ rest))
      rw [atC_app, if_neg hne, List.append_nil]
      exact .tail (CL_upd nd.2 h)
theorem CK_look {ts : List (Cl × Addr)} {c : Cl} : (∀ v, lookS (CK ts) (cK c) = some v → ∃ p, (c, p) ∈ ts ∧ v = .ptr p) ∧ (lookS (CK ts) (cK c) = none → c ∉ ts.map (·.1)) := by
  unfold CK
  suffices h : ∀ us : List (Cl × Addr), (∀ v, lookS (us.map fun t => (cK t.1, SV.ptr t.2)) (cK c) = some v → ∃ p, (c, p) ∈ us ∧ v = .ptr p) ∧ (lookS (us.map fun t => (cK t.1, SV.ptr t.2)) (cK c) = none → c ∉ us.map (·.1)) by
    obtain ⟨h1, h2⟩ := h ts.reverse
    refine ⟨fun v e => ?_, fun e => ?_⟩
    · obtain ⟨p, hp, e⟩ := h1 v e
      exact ⟨p, List.mem_reverse.mp hp, e⟩
    · have := h2 e
      rw [List.map_reverse, List.mem_reverse] at this
      exact this
  intro us
  induction us with
  | nil => exact ⟨fun v e => (by cases e), fun _ z => (by cases z)⟩
  | cons t us ih =>
    rw [List.map_cons]
    by_cases e : t.1 = c
    · subst e
      rw [look_hit]
      exact ⟨fun v e => ⟨t.2, List.mem_cons_self, (Option.some.inj e).symm⟩, fun e => (by cases e)⟩
    · rw [look_miss (fun z => e (cK_inj _ _ z))]
      refine ⟨fun v h => ?_, fun h => ?_⟩
      · obtain ⟨p, hp, e⟩ := ih.1 v h
        exact ⟨p, List.mem_cons_of_mem _ hp, e⟩
      · rw [List.map_cons, List.mem_cons, not_or]
        exact ⟨fun z => e z.symm, ih.2 h⟩
theorem CK_new {ts : List (Cl × Addr)} {c : Cl} {p : Addr} (h : c ∉ ts.map (·.1)) : putS (CK ts) (cK c) (.ptr p) = CK ((c, p) :: ts) := by
  have : ((CK ts).any fun kv => decide (kv.1 = cK c)) = false := by
    rw [List.any_eq_false]
    intro x hx
    obtain ⟨d, hd, rfl⟩ := List.mem_map.mp hx
    simp only [decide_eq_true_eq]
    exact fun z => h (by rw [← cK_inj _ _ z]; exact List.mem_map.mpr ⟨d, List.mem_reverse.mp hd, rfl⟩)
  unfold putS
  rw [this]
  unfold CK
  rw [List.reverse_cons, List.map_append]
  rfl
theorem CL_mem {S : List Sd} {ts : List (Cl × Addr)} {c : Cl} {p : Addr} {rest : List (Addr × Cell)} (h : (c, p) ∈ ts) : (p, Cell.lst (((atC S c).map sD).map .dat)) ∈ CL S ts ++ rest :=
  List.mem_append_left _ (List.mem_map.mpr ⟨(c, p), h, rfl⟩)
/-- all corners at which some of S begin -/
def Has (S : List Sd) (ts : List (Cl × Addr)) : Prop := ∀ c, c ∈ ts.map (·.1) ↔ ∃ s ∈ S, s.1 = c
theorem CK_get {S : List Sd} {ts : List (Cl × Addr)} (h : Has S ts) (nd : (ts.map (·.1)).Nodup) {s : Sd} (hs : s ∈ S) : ∃ p, lookS (CK ts) (cK s.1) = some (.ptr p) ∧ (s.1, p) ∈ ts := by
  cases e : lookS (CK ts) (cK s.1) with
  | none => exact absurd ((h s.1).mpr ⟨s, hs, rfl⟩) (CK_look.2 e)
  | some v =>
    obtain ⟨p, hp, rfl⟩ := CK_look.1 v e
    exact ⟨p, rfl, hp⟩
theorem Has.same {S : List Sd} {ts : List (Cl × Addr)} {s : Sd} (h : Has S ts) (hs : s.1 ∈ ts.map (·.1)) : Has (S ++ [s]) ts := fun c => by
  rw [h c]
  constructor
  · rintro ⟨t, ht, e⟩
    exact ⟨t, List.mem_append_left _ ht, e⟩
  · rintro ⟨t, ht, e⟩
    rcases List.mem_append.mp ht with ht | ht
    · exact ⟨t, ht, e⟩
    · rw [List.mem_singleton.mp ht] at e
      exact (h c).mp (by rw [← e]; exact hs)
theorem Has.new {S : List Sd} {ts : List (Cl × Addr)} {s : Sd} {p : Addr} (h : Has S ts) : Has (S ++ [s]) ((s.1, p) :: ts) := fun c => by
  rw [List.map_cons, List.mem_cons, h c]
  constructor
  · rintro (e | ⟨t, ht, e⟩)
    · exact ⟨s, List.mem_append_right _ List.mem_cons_self, e.symm⟩
    · exact ⟨t, List.mem_append_left _ ht, e⟩
  · rintro ⟨t, ht, e⟩
    rcases List.mem_append.mp ht with ht | ht
    · exact .inr ⟨t, ht, e⟩
    · rw [List.mem_singleton.mp ht] at e
      exact .inl e.symm
theorem CL_new {S : List Sd} {ts : List (Cl × Addr)} {s : Sd} {p : Addr} (h : Has S ts) (hn : s.1 ∉ ts.map (·.1)) : (p, Cell.lst [.dat (sD s)]) :: CL S ts = CL (S ++ [s]) ((s.1, p) :: ts) := by
  have e0 : atC S s.1 = [] := by
    unfold atC
    rw [List.filter_eq_nil_iff]
    intro t ht e
    exact hn ((h s.1).mpr ⟨t, ht, of_decide_eq_true e⟩)
  show _ = (p, Cell.lst (((atC (S ++ [s]) s.1).map sD).map .dat)) :: CL (S ++ [s]) ts
  rw [CL_other hn, atC_app, if_pos rfl, e0]
  rfl

abbrev ctD (c : List Cl) : PyData := .tuple (c.map cD)

theorem go_trim {K : PySem.W.Frag} {I : Blk} {l : List (Addr × Cell)} {tu : TS} {S : List SV} {E : DE} : ∀ {G : List (Addr × Cell)}, Go K ⟨I, l⟩ tu S E → Go K ⟨I, G ++ l⟩ tu S E
  | [], h => h
  | (p, c) :: G, h => go_loss (A := ⟨I, (p, c) :: (G ++ l)⟩) .head (go_trim (G := G) h)

theorem upd_mid {p : Addr} {c c' : Cell} {r : List (Addr × Cell)} : ∀ M : List (Addr × Cell), Upd (M ++ (p, c) :: r) p c c' (M ++ (p, c') :: r)
  | [] => .head
  | _ :: M => .tail (upd_mid M)
theorem out_small {S : List Sd} {f : Sd → Sd} {n j : Nat} {rs : List (List Sd)} (hT : Turns S f) (hS : S.length ≤ n) (ho : Out S f j rs) : rs.flatten.length ≤ n ∧ rs.length ≤ n := by
  have hfl : rs.flatten.length ≤ n := Nat.le_trans (len_sub ho.nodup fun x hx => ho.sub hT x hx) hS
  refine ⟨hfl, ?_⟩
  have : ∀ M : List (List Sd), (∀ g ∈ M, 1 ≤ g.length) → M.length ≤ M.flatten.length := by
    intro M
    induction M with
    | nil => intro _; simp
    | cons g M ih =>
      intro h
      have := ih fun x hx => h x (List.mem_cons_of_mem _ hx)
      have h2 := h g List.mem_cons_self
      rw [List.flatten_cons, List.length_append, List.length_cons]
      omega
  have := this rs fun g hg => by
    obtain ⟨s, k, hk, e, _⟩ := (ho.rings g hg).is
    rw [e, itr_len]
    omega
  omega

/-! ### lists of told rings -/
theorem ct_plain (c : List Cl) : plainD (ctD c) = true := csD_plain c
theorem ct_inj (a b : List Cl) (h : ctD a = ctD b) : a = b := csD_inj a b h
theorem alikeA_cells : ∀ p q : List Cl, PySem.W.alikeAll (p.map cD) (q.map cD) = true
  | [], _ => rfl
  | _ :: _, [] => rfl
  | a :: p, b :: q => by
    show PySem.W.alikeAll (cD a :: p.map cD) (cD b :: q.map cD) = true
    have ih := alikeA_cells p q
    simp only [PySem.W.alikeAll, ih, Bool.and_true]
    rfl
theorem pieces_alike (ps : List (List Cl)) : PySem.W.AllAlike (ps.map ctD) := PySem.W.AllAlike.of fun p q => by
  simp only [ctD, PySem.W.alike]
  exact alikeA_cells p q
theorem pieces_sort {ps : List (List Cl)} (h : ∀ p ∈ ps, p ≠ []) : PySem.W.Sortable (ps.map ctD) := .inl fun d hd => by
  obtain ⟨p, hp, rfl⟩ := List.mem_map.mp hd
  cases p with
  | nil => exact absurd rfl (h _ hp)
  | cons c p => exact ⟨_, _, rfl⟩
theorem pieces_depth (ps : List (List Cl)) : ∀ d ∈ ps.map ctD, d.depth ≤ 60 := fun d hd => by
  obtain ⟨p, hp, rfl⟩ := List.mem_map.mp hd
  have := depthAll_map cD_depth p
  simp only [ctD, PyData.depth]
  omega

theorem ct_depth (p : List Cl) : (ctD p).depth ≤ 2 := by
  have := depthAll_map cD_depth p
  simp only [PyData.depth]
  omega
theorem cts_plain (ps : List (List Cl)) : plainA (ps.map ctD) = true := plainA_map ct_plain ps
theorem tk_ne {r : List Sd} (h : ∃ s u v L, Told r s u v L) : tk r ≠ [] := by
  obtain ⟨s, u, v, L, _, e⟩ := tk_spec h
  rw [e]
  simp

theorem boxC_nodup (w h : Nat) : (boxC w h).Nodup := by
  unfold boxC
  show List.Pairwise (· ≠ ·) _
  rw [List.pairwise_flatMap]
  refine ⟨fun i _ => ?_, ?_⟩
  · rw [List.pairwise_map]
    exact List.nodup_range.imp fun {a b} hab e => hab (by
      have := congrArg Prod.snd e
      simp only at this
      omega)
  · exact List.nodup_range.imp fun {a b} hab x hx y hy e => hab (by
      obtain ⟨u, _, rfl⟩ := List.mem_map.mp hx
      obtain ⟨v, _, rfl⟩ := List.mem_map.mp hy
      have := congrArg Prod.fst e
      simp only at this
      omega)
/-! ### dicts by told rings -/
def tkK (c : List Cl) : NestedKey := .tup (c.map cK)
theorem datas_cK : ∀ c : List Cl, NestedKey.datas (c.map cK) = c.map cD
  | [] => rfl
  | a :: c => by
    show NestedKey.data (cK a) :: NestedKey.datas (c.map cK) = _
    rw [datas_cK c]
    rfl
theorem tkK_data (c : List Cl) : (tkK c).data = ctD c := by
  show PyData.tuple (NestedKey.datas (c.map cK)) = _
  rw [datas_cK]
theorem tkK_inj (a b : List Cl) (h : tkK a = tkK b) : a = b := ct_inj _ _ (by rw [← tkK_data, ← tkK_data, h])
theorem tkK_depth (c : List Cl) : (tkK c).depth ≤ 8 := by
  have : ∀ c : List Cl, NestedKey.depthAll (c.map cK) ≤ 1 := by
    intro c
    induction c with
    | nil => simp [NestedKey.depthAll]
    | cons a c ih =>
      show max (NestedKey.depth (cK a)) (NestedKey.depthAll (c.map cK)) ≤ 1
      have h1 : NestedKey.depth (cK a) ≤ 1 := by simp [cK, NestedKey.depth, NestedKey.depthAll]
      omega
  have := this c
  show NestedKey.depthAll (c.map cK) + 1 ≤ 8
  omega
theorem tkK_key (c : List Cl) : KeyS (.dat (ctD c)) (tkK c) := ⟨by rw [tkK_data], ⟨_, rfl⟩, tkK_depth c⟩
theorem look_nd {α : Type} (key : α → NestedKey) (v : α → SV) : ∀ {xs : List α}, (xs.map key).Nodup → ∀ x ∈ xs, lookS (xs.map fun a => (key a, v a)) (key x) = some (v x)
  | y :: xs, nd, x, hx => by
    rw [List.map_cons, List.nodup_cons] at nd
    rw [List.map_cons]
    rcases List.mem_cons.mp hx with rfl | hx
    · exact look_hit
    · rw [look_miss (fun z => nd.1 (by rw [z]; exact List.mem_map.mpr ⟨x, hx, rfl⟩))]
      exact look_nd key v nd.2 x hx
theorem merge_nd : ∀ {more acc : List (NestedKey × SV)}, ((acc ++ more).map (·.1)).Nodup → mergeN acc more = acc ++ more
  | [], acc, _ => by simp [mergeN]
  | (k, v) :: more, acc, nd => by
    have e : putS acc k v = acc ++ [(k, v)] := by
      have : (acc.any fun kv => decide (kv.1 = k)) = false := by
        rw [List.any_eq_false]
        intro x hx
        simp only [decide_eq_true_eq]
        intro z
        rw [List.map_append, List.nodup_append] at nd
        exact nd.2.2 x.1 (List.mem_map.mpr ⟨x, hx, rfl⟩) k (by simp) z
      unfold putS
      rw [this]
      rfl
    show mergeN (putS acc k v) more = _
    rw [e, merge_nd (by simpa using nd)]
    simp
/-! ### how long they are told -/
theorem S_small {cs : List Cl} (h : Region cs) : ∀ s ∈ Sds cs, smallC s.1 ∧ smallC s.2 := fun s hs => by
  have h1 : s ∈ lawpre cs cs := (pre_perm cs).mem_iff.mp ((sortS_perm _).mem_iff.mp hs)
  have := lawpre_small h.lo s h1
  exact ⟨⟨by omega, by omega⟩, by omega, by omega⟩
theorem sds_list_small {l : List Sd} (hl : l.length ≤ 2000) (h : ∀ s ∈ l, smallC s.1 ∧ smallC s.2) : smallA (l.map sD) = true ∧ wtA (l.map sD) ≤ 900000 ∧ PyData.depthAll (l.map sD) ≤ 50 := by
  refine ⟨?_, ?_, ?_⟩
  · refine smallA_mem.mpr fun x hx => ?_
    obtain ⟨s, hs, rfl⟩ := List.mem_map.mp hx
    exact sD_small (h s hs).1 (h s hs).2
  · have h1 := wtA_le (n := 65) (xs := l.map sD) fun x hx => by
      obtain ⟨s, hs, rfl⟩ := List.mem_map.mp hx
      rw [sD_wt]
      exact Nat.le_refl _
    rw [List.length_map] at h1
    omega
  · exact Nat.le_trans (depthAll_map sD_depth l) (by decide)
theorem cts_small {ps : List (List Cl)} (hl : ps.length ≤ 98) (h : ∀ p ∈ ps, p.length ≤ 196 ∧ ∀ c ∈ p, smallC c) : smallA (dsort (ps.map ctD)) = true ∧ wtA (dsort (ps.map ctD)) ≤ 900000 ∧ PyData.depthAll (dsort (ps.map ctD)) ≤ 50 := by
  have hm : ∀ d ∈ dsort (ps.map ctD), ∃ p ∈ ps, d = ctD p := fun d hd => by
    obtain ⟨p, hp, rfl⟩ := List.mem_map.mp ((dsort_perm _).mem_iff.mp hd)
    exact ⟨p, hp, rfl⟩
  refine ⟨?_, ?_, ?_⟩
  · refine smallA_mem.mpr fun x hx => ?_
    obtain ⟨p, hp, rfl⟩ := hm x hx
    show smallA (p.map cD) = true
    refine smallA_mem.mpr fun y hy => ?_
    obtain ⟨c, hc, rfl⟩ := List.mem_map.mp hy
    exact cD_small ((h p hp).2 c hc)
  · have h1 := wtA_le (n := 6079) (xs := dsort (ps.map ctD)) fun x hx => by
      obtain ⟨p, hp, rfl⟩ := hm x hx
      have h2 := wtA_le (n := 29) (xs := p.map cD) fun y hy => by
        obtain ⟨c, hc, rfl⟩ := List.mem_map.mp hy
        rw [cD_wt]
        exact Nat.le_refl _
      have h3 := (h p hp).1
      rw [List.length_map] at h2
      show wtA (p.map cD) + 3 ≤ 6079
      omega
    rw [(dsort_perm _).length_eq, List.length_map] at h1
    omega
  · exact Nat.le_trans (depthAll_le (n := 2) fun x hx => by
      obtain ⟨p, hp, rfl⟩ := hm x hx
      exact ct_depth p) (by decide)
theorem Side.ne {cs : List Cl} {s : Sd} (h : Side cs s) : s.1 ≠ s.2 := by
  cases h <;> intro e <;> simp only [Prod.mk.injEq] at e <;> omega
/-- what is known of all rings of a region -/
structure Rings (cs : List Cl) (rs : List (List Sd)) : Prop where
  out : Out (Sds cs) (nx cs) (Sds cs).length rs
  told : ∀ r ∈ rs, ∃ s u v L, Told r s u v L
  side : ∀ r ∈ rs, ∀ x ∈ r, x ∈ Sds cs
  len : ∀ r ∈ rs, r.length ≤ 196 ∧ 2 ≤ r.length
  many : rs.length ≤ 98
  nd : (rs.map tk).Nodup
  all : ∀ x, x ∈ rs.flatten ↔ x ∈ Sds cs
theorem rings_of {cs : List Cl} (hl : cs.length ≤ 49) {rs : List (List Sd)} (ho : Out (Sds cs) (nx cs) (Sds cs).length rs) : Rings cs rs := by
  have hT := S_turns cs
  have hS := S_len hl
  have side : ∀ r ∈ rs, ∀ x ∈ r, x ∈ Sds cs := fun r hr x hx => ho.sub hT x (List.mem_flatten.mpr ⟨r, hr, hx⟩)
  have told : ∀ r ∈ rs, ∃ s u v L, Told r s u v L := fun r hr => ring_told (ho.rings r hr) fun x hx => S_mem.mp (side r hr x hx)
  have hfl := (out_small hT hS ho).1
  have len : ∀ r ∈ rs, r.length ≤ 196 ∧ 2 ≤ r.length := fun r hr => by
    obtain ⟨s, k, hk, e, e2, nd⟩ := (ho.rings r hr).is
    refine ⟨Nat.le_trans (len_sub nd fun x hx => side r hr x hx) hS, ?_⟩
    rw [e, itr_len]
    refine Classical.byContradiction fun z => ?_
    have hk1 : k = 1 := by omega
    subst hk1
    have hs : Side cs s := S_mem.mp (side r hr s (by rw [e]; exact mem_itr.mpr ⟨0, by omega, rfl⟩))
    have h1 : nx cs s = s := e2
    exact hs.ne (by rw [← nx_first (cs := cs) s, h1])
  have many : rs.length ≤ 98 := by
    have : ∀ M : List (List Sd), (∀ g ∈ M, 2 ≤ g.length) → 2 * M.length ≤ M.flatten.length := by
      intro M
      induction M with
      | nil => intro _; simp
      | cons g M ih =>
        intro h
        have := ih fun x hx => h x (List.mem_cons_of_mem _ hx)
        have h2 := h g List.mem_cons_self
        rw [List.flatten_cons, List.length_append, List.length_cons]
        omega
    have := this rs fun g hg => (len g hg).2
    omega
  refine ⟨ho, told, side, len, many, tks_nodup ho.nodup told, fun x => ⟨fun h => ho.sub hT x h, fun h => ?_⟩⟩
  have := ho.has x
  rw [List.take_length] at this
  exact this h
theorem tk_mem {r : List Sd} (h : ∃ s u v L, Told r s u v L) : (tk r).length ≤ r.length ∧ ∀ c ∈ tk r, ∃ s ∈ r, s.1 = c := by
  obtain ⟨s, u, v, L, ht, e⟩ := tk_spec h
  have h1 := cornP_len v s
  have h2 := cornP_len u (r.getLastD s)
  have h3 : r.length = u.length + (v.length + 1) := by
    have := congrArg List.length ht.split
    rw [List.length_append, List.length_cons] at this
    exact this
  refine ⟨by rw [e, List.length_cons, List.length_append]; omega, fun c hc => ?_⟩
  rw [e] at hc
  rcases List.mem_cons.mp hc with rfl | hc
  · exact ⟨s, (told_mem ht).mp List.mem_cons_self, rfl⟩
  · rcases List.mem_append.mp hc with hc | hc
    · obtain ⟨t, h4, h5⟩ := mem_cornP hc
      exact ⟨t, (told_mem ht).mp (List.mem_cons_of_mem _ (List.mem_append_left _ h4)), h5⟩
    · obtain ⟨t, h4, h5⟩ := mem_cornP hc
      exact ⟨t, (told_mem ht).mp (List.mem_cons_of_mem _ (List.mem_append_right _ h4)), h5⟩
theorem Rings.small {cs : List Cl} {rs : List (List Sd)} (h : Rings cs rs) (hc : Region cs) : smallA (dsort ((rs.map tk).map ctD)) = true ∧ wtA (dsort ((rs.map tk).map ctD)) ≤ 900000 ∧ PyData.depthAll (dsort ((rs.map tk).map ctD)) ≤ 50 := by
  refine cts_small (by rw [List.length_map]; exact h.many) fun p hp => ?_
  obtain ⟨r, hr, rfl⟩ := List.mem_map.mp hp
  obtain ⟨h1, h2⟩ := tk_mem (h.told r hr)
  refine ⟨Nat.le_trans h1 (h.len r hr).1, fun c hc2 => ?_⟩
  obtain ⟨s, hs, rfl⟩ := h2 c hc2
  exact (S_small hc s (h.side r hr s hs)).1

theorem split_one {α : Type} : ∀ {l1 l2 l3 l4 : List α} {a : α}, l1 ++ a :: l2 = l3 ++ a :: l4 → a ∉ l1 → a ∉ l3 → l1 = l3 ∧ l2 = l4
  | [], l2, [], l4, a, h, _, _ => ⟨rfl, (List.cons.inj h).2⟩
  | [], l2, b :: l3, l4, a, h, _, n => absurd (List.mem_cons.mpr (.inl (List.cons.inj h).1)) n
  | b :: l1, l2, [], l4, a, h, n, _ => absurd (List.mem_cons.mpr (.inl (List.cons.inj h).1.symm)) n
  | b :: l1, l2, c :: l3, l4, a, h, n1, n2 => by
    obtain ⟨h1, h2⟩ := List.cons.inj h
    obtain ⟨e1, e2⟩ := split_one h2 (fun z => n1 (List.mem_cons_of_mem _ z)) (fun z => n2 (List.mem_cons_of_mem _ z))
    exact ⟨by rw [h1, e1], e2⟩
/-- from its least side on, a ring is a walk -/
theorem told_closed {cs : List Cl} {r : List Sd} {s : Sd} {u v : List Sd} {L : List Leg} (hr : Ring (nx cs) r) (hs : ∀ x ∈ r, Side cs x) (ht : Told r s u v L) :
    ∃ k, s :: (v ++ u) = itr (nx cs) s (k + 1) ∧ pw (nx cs) (k + 1) s = s ∧ r.length = k + 1 ∧ going (pw (nx cs) k s) ≠ going s := by
  obtain ⟨s0, K, hK, er, eK, nd⟩ := hr.is
  have hsr : s ∈ r := by rw [ht.split]; exact List.mem_append_right _ List.mem_cons_self
  obtain ⟨i, hi, es⟩ := mem_itr.mp (by rw [← er]; exact hsr)
  obtain ⟨t1, t2⟩ := itr_turn eK (Nat.le_of_lt hi)
  rw [es] at t1 t2
  obtain ⟨m, em⟩ : ∃ m, K - i = m + 1 := ⟨K - i - 1, by omega⟩
  obtain ⟨k, ek⟩ : ∃ k, K = k + 1 := ⟨K - 1, by omega⟩
  rw [em, itr_cons] at t1 t2
  have eper : pw (nx cs) K s = s := by rw [← es, pw_add, Nat.add_comm, ← pw_add, eK]
  have nd2 := nd
  rw [ht.split, List.nodup_append] at nd2
  have nd3 := nd
  rw [er, t1, List.nodup_append] at nd3
  obtain ⟨e1, e2⟩ := split_one (ht.split.symm.trans (er.trans t1)) (fun z => nd2.2.2 s z s List.mem_cons_self rfl) (fun z => nd3.2.2 s z s List.mem_cons_self rfl)
  rw [e1, e2]
  refine ⟨k, ?_, by rw [← ek]; exact eper, by rw [er, itr_len, ek], ?_⟩
  · rw [← ek, t2]
    rfl
  · have hq : nx cs (pw (nx cs) k s) = s := by
      show pw (nx cs) (k + 1) s = s
      rw [← ek]
      exact eper
    have hqr : ∀ j, pw (nx cs) j s ∈ r := by
      intro j
      induction j with
      | zero => exact hsr
      | succ j ih => exact hr.next ih
    have e3 : (pw (nx cs) k s).2 = s.1 := by rw [← nx_first (cs := cs), hq]
    exact least_turn (hs _ (hqr k)) (hs s hsr) e3 (by rw [e3]; exact ht.least _ (hqr k)) (by rw [← nx_first (cs := cs) s]; exact ht.least _ (hqr 1))
theorem told_corn {r : List Sd} {s : Sd} {u v : List Sd} {L : List Leg} (ht : Told r s u v L) : cornP s (v ++ u) = cornP s v ++ cornP (r.getLastD s) u := by
  rw [cornP_app, ht.split, glast]
theorem told_one {r : List Sd} {s s' : Sd} {u u' v v' : List Sd} {L L' : List Leg} (nd : r.Nodup) (h1 : Told r s u v L) (h2 : Told r s' u' v' L') : s = s' ∧ u = u' ∧ v = v' := by
  have m1 : s ∈ r := by rw [h1.split]; exact List.mem_append_right _ List.mem_cons_self
  have m2 : s' ∈ r := by rw [h2.split]; exact List.mem_append_right _ List.mem_cons_self
  have e1 : s' = s := h1.alone s' m2 (ltP_tri (h1.least s' m2) (h2.least s m1))
  subst e1
  have n1 := nd
  have n2 := nd
  rw [h1.split, List.nodup_append] at n1
  rw [h2.split, List.nodup_append] at n2
  obtain ⟨e2, e3⟩ := split_one (h1.split.symm.trans h2.split) (fun z => n1.2.2 s' z s' List.mem_cons_self rfl) (fun z => n2.2.2 s' z s' List.mem_cons_self rfl)
  exact ⟨rfl, e2, e3⟩
theorem tk_is {r : List Sd} {s : Sd} {u v : List Sd} {L : List Leg} (nd : r.Nodup) (ht : Told r s u v L) : tk r = s.1 :: cornP s (v ++ u) := by
  obtain ⟨s', u', v', L', h, e⟩ := tk_spec ⟨s, u, v, L, ht⟩
  obtain ⟨rfl, rfl, rfl⟩ := told_one nd ht h
  rw [e, told_corn ht]
theorem ring_reach {α : Type} [DecidableEq α] {f : α → α} {r : List α} (h : Ring f r) {x y : α} (hx : x ∈ r) (hy : y ∈ r) : ∃ j, pw f j x = y := by
  obtain ⟨s, K, hK, rfl, e, _⟩ := h.is
  obtain ⟨i, hi, rfl⟩ := mem_itr.mp hx
  obtain ⟨m, hm, rfl⟩ := mem_itr.mp hy
  refine ⟨K - i + m, ?_⟩
  rw [pw_add, show i + (K - i + m) = K + m by omega, ← pw_add, e]
theorem ring_pw {α : Type} [DecidableEq α] {f : α → α} {r : List α} (h : Ring f r) {x : α} (hx : x ∈ r) : ∀ j, pw f j x ∈ r
  | 0 => hx
  | j + 1 => h.next (ring_pw h hx j)
theorem ring_sub {α : Type} [DecidableEq α] {f : α → α} {r q : List α} (h : Ring f r) (h2 : Ring f q) {x : α} (hx : x ∈ r) (hx2 : x ∈ q) : ∀ y ∈ r, y ∈ q := fun y hy => by
  obtain ⟨j, rfl⟩ := ring_reach h hx hy
  exact ring_pw h2 hx2 j
theorem Ring.nd {α : Type} [DecidableEq α] {f : α → α} {r : List α} (h : Ring f r) : r.Nodup := by
  obtain ⟨_, _, _, _, _, nd⟩ := h.is
  exact nd
theorem ring_perm {α : Type} [DecidableEq α] {f : α → α} {r q : List α} (h : Ring f r) (h2 : Ring f q) {x : α} (hx : x ∈ r) (hx2 : x ∈ q) : r.Perm q :=
  (List.perm_ext_iff_of_nodup h.nd h2.nd).mpr fun y => ⟨ring_sub h h2 hx hx2 y, ring_sub h2 h hx2 hx y⟩
theorem Ring.agree {α : Type} [DecidableEq α] {f g : α → α} {r : List α} (h : Ring f r) (hg : ∀ x ∈ r, f x = g x) : Ring g r := by
  obtain ⟨s, K, hK, er, e, nd⟩ := h.is
  have hs : s ∈ r := by rw [er]; exact mem_itr.mpr ⟨0, hK, rfl⟩
  have hp : ∀ j, pw g j s = pw f j s := by
    intro j
    induction j with
    | zero => rfl
    | succ j ih =>
      show g (pw g j s) = f (pw f j s)
      rw [ih, hg _ (ring_pw h hs j)]
  refine ⟨s, K, hK, ?_, by rw [hp]; exact e, nd⟩
  rw [er]
  unfold itr
  exact List.map_congr_left fun j _ => (hp j).symm
/-- rings that meet are told alike -/
theorem tk_meet {cs : List Cl} {r q : List Sd} (hr : Ring (nx cs) r) (hq : Ring (nx cs) q) (hs : ∀ x ∈ r, Side cs x) {x : Sd} (hx : x ∈ r) (hx2 : x ∈ q) : tk r = tk q := by
  have hp := ring_perm hr hq hx hx2
  have hs2 : ∀ x ∈ q, Side cs x := fun x h => hs x (hp.mem_iff.mpr h)
  obtain ⟨s, u, v, L, ht⟩ := ring_told hr hs
  obtain ⟨s', u', v', L', ht'⟩ := ring_told hq hs2
  have m1 : s ∈ r := by rw [ht.split]; exact List.mem_append_right _ List.mem_cons_self
  have m2 : s' ∈ q := by rw [ht'.split]; exact List.mem_append_right _ List.mem_cons_self
  have e1 : s' = s := ht.alone s' (hp.mem_iff.mpr m2) (ltP_tri (ht.least s' (hp.mem_iff.mpr m2)) (ht'.least s (hp.mem_iff.mp m1)))
  subst e1
  rw [tk_is hr.nd ht, tk_is hq.nd ht']
  obtain ⟨k, a1, a2, a3, _⟩ := told_closed hr hs ht
  obtain ⟨k', b1, b2, b3, _⟩ := told_closed hq hs2 ht'
  have ek : k' = k := by have := hp.length_eq; omega
  subst ek
  have := a1.trans b1.symm
  rw [(List.cons.inj this).2]
/-- what a ring tells is closed and turns where it is told -/
structure Closed (s : Sd) (t : List Sd) : Prop where
  link : ∀ i, i < (s :: t).length → (((s :: t).getLastD s :: s :: t).getD i s).2 = ((s :: t).getD i s).1
  turn : going ((s :: t).getLastD s) ≠ going s
  least : ∀ c ∈ cornP s t, ltP c s.1 = false
structure Shown (r : List Sd) (x : Sd × List Sd × List Leg) : Prop where
  tk_ : tk r = x.1.1 :: cornP x.1 x.2.1
  legs : Legs (x.1 :: x.2.1) (x.1.1 :: cornP x.1 x.2.1) x.1.1 x.2.2
  closed : Closed x.1 x.2.1
  perm : (x.1 :: x.2.1).Perm r
theorem shown_of {cs : List Cl} {r : List Sd} (hr : Ring (nx cs) r) (hs : ∀ x ∈ r, Side cs x) : ∃ x, Shown r x := by
  obtain ⟨s, u, v, L, ht⟩ := ring_told hr hs
  obtain ⟨k, a1, a2, a3, a4⟩ := told_closed hr hs ht
  refine ⟨(s, v ++ u, L), tk_is hr.nd ht, ?_, ⟨fun i hi => ?_, ?_, fun c hc => ?_⟩, ?_⟩
  · have := ht.legs
    rw [← told_corn ht] at this
    exact this
  · show (((s :: (v ++ u)).getLastD s :: s :: (v ++ u)).getD i s).2 = ((s :: (v ++ u)).getD i s).1
    rw [a1, itr_last]
    have hi : i < k + 1 := by
      have hi : i < (s :: (v ++ u)).length := hi
      rw [a1, itr_len] at hi
      exact hi
    cases i with
    | zero =>
      show (pw (nx cs) k s).2 = _
      rw [List.getD_eq_getElem?_getD, itr_get (by omega), ← nx_first (cs := cs)]
      exact congrArg Prod.fst a2
    | succ i =>
      rw [List.getD_cons_succ, List.getD_eq_getElem?_getD, itr_get (by omega), List.getD_eq_getElem?_getD, itr_get hi]
      exact (nx_first (cs := cs) (pw (nx cs) i s)).symm
  · show going ((s :: (v ++ u)).getLastD s) ≠ going s
    rw [a1, itr_last]
    exact a4
  · obtain ⟨t, h1, h2⟩ := mem_cornP hc
    rw [← h2]
    exact ht.least t ((told_mem ht).mp (List.mem_cons_of_mem _ h1))
  · rw [ht.split]
    show (s :: (v ++ u)).Perm _
    exact (List.Perm.cons s List.perm_append_comm).trans List.perm_middle.symm
open Classical in
noncomputable def wk (r : List Sd) : Sd × List Sd × List Leg := if h : ∃ x, Shown r x then h.choose else default
theorem wk_spec {r : List Sd} (h : ∃ x, Shown r x) : Shown r (wk r) := by
  unfold wk
  rw [dif_pos h]
  exact h.choose_spec
noncomputable def wkL (r : List Sd) : List Sd := (wk r).1 :: (wk r).2.1
theorem Rings.shown {cs : List Cl} {rs : List (List Sd)} (h : Rings cs rs) : ∀ r ∈ rs, Shown r (wk r) := fun r hr => wk_spec (shown_of (h.out.rings r hr) fun x hx => S_mem.mp (h.side r hr x hx))
theorem flat_perm2 {α β : Type} (f g : α → List β) : ∀ l : List α, (∀ x ∈ l, (f x).Perm (g x)) → (l.flatMap f).Perm (l.flatMap g) := flat_perm f g
theorem Rings.flat {cs : List Cl} {rs hs : List (List Sd)} (h : Rings cs rs) (hn : cs.Nodup) (hp : hs.Perm rs) : (hs.flatMap wkL).Perm (Sds cs) := by
  have h1 : (hs.flatMap wkL).Perm (hs.flatMap id) := flat_perm _ _ hs fun r hr => (h.shown r (hp.mem_iff.mp hr)).perm
  have h2 : (hs.flatMap id).Perm (rs.flatMap id) := hp.flatMap_right _
  refine h1.trans (h2.trans ?_)
  have h3 : rs.flatMap id = rs.flatten := by rw [List.flatMap_id]
  rw [h3]
  exact (List.perm_ext_iff_of_nodup h.out.nodup (S_nodup hn)).mpr h.all
/-! ### regions whose rings agree -/
/-- rings of U are those of its parts, where what goes on is the same -/
theorem rings_parts {U : List Cl} {ru : List (List Sd)} (hu : Rings U ru) {ι : Type} {parts : List ι} {P : ι → List Cl} {R : ι → List (List Sd)} (hp : ∀ i ∈ parts, Rings (P i) (R i))
    (hd : parts.Pairwise fun i j => ∀ x, x ∈ Sds (P i) → x ∉ Sds (P j)) (hall : ∀ x, x ∈ Sds U ↔ ∃ i ∈ parts, x ∈ Sds (P i)) (hnx : ∀ i ∈ parts, ∀ x ∈ Sds (P i), nx (P i) x = nx U x) :
    (ru.map tk).Perm (parts.flatMap fun i => (R i).map tk) := by
  have ring : ∀ i ∈ parts, ∀ r ∈ R i, Ring (nx U) r := fun i hi r hr => ((hp i hi).out.rings r hr).agree fun x hx => hnx i hi x ((hp i hi).side r hr x hx)
  refine (List.perm_ext_iff_of_nodup hu.nd ?_).mpr fun c => ?_
  · show List.Pairwise (· ≠ ·) _
    rw [List.pairwise_flatMap]
    refine ⟨fun i hi => (hp i hi).nd, ?_⟩
    refine (List.Pairwise.and_mem.mp hd).imp ?_
    rintro i j ⟨hi, hj, hij⟩ x hx y hy e
    obtain ⟨r, hr, rfl⟩ := List.mem_map.mp hx
    obtain ⟨q, hq, rfl⟩ := List.mem_map.mp hy
    obtain ⟨z, h1, h2⟩ := tk_share ((hp i hi).told r hr) ((hp j hj).told q hq) e
    exact hij z ((hp i hi).side r hr z h1) ((hp j hj).side q hq z h2)
  · have some : ∀ {cs rs}, Rings cs rs → ∀ r ∈ rs, ∃ x, x ∈ r := fun h r hr => by
      have := (h.len r hr).2
      match r, this with
      | x :: _, _ => exact ⟨x, List.mem_cons_self⟩
    rw [List.mem_map, List.mem_flatMap]
    constructor
    · rintro ⟨r, hr, rfl⟩
      obtain ⟨x, hx⟩ := some hu r hr
      obtain ⟨i, hi, hxi⟩ := (hall x).mp (hu.side r hr x hx)
      obtain ⟨q, hq, hxq⟩ := List.mem_flatten.mp (((hp i hi).all x).mpr hxi)
      exact ⟨i, hi, List.mem_map.mpr ⟨q, hq, (tk_meet (hu.out.rings r hr) (ring i hi q hq) (fun x hx => S_mem.mp (hu.side r hr x hx)) hx hxq).symm⟩⟩
    · rintro ⟨i, hi, hc⟩
      obtain ⟨q, hq, rfl⟩ := List.mem_map.mp hc
      obtain ⟨x, hx⟩ := some (hp i hi) q hq
      obtain ⟨r, hr, hxr⟩ := List.mem_flatten.mp ((hu.all x).mpr ((hall x).mpr ⟨i, hi, (hp i hi).side q hq x hx⟩))
      exact ⟨r, hr, tk_meet (hu.out.rings r hr) (ring i hi q hq) (fun x hx => S_mem.mp (hu.side r hr x hx)) hxr hx⟩

/-! ### owned lists by keys -/
section
variable {κ β γ : Type} [DecidableEq κ] [DecidableEq γ] {key : β → κ} {enc : β → SV} {kn : κ → γ}
def grp (key : β → κ) (S : List β) (c : κ) : List β := S.filter fun t => decide (key t = c)
def GL (key : β → κ) (enc : β → SV) (S : List β) (ts : List (κ × Addr)) : List (Addr × Cell) := ts.map fun t => (t.2, .lst ((grp key S t.1).map enc))
def GK (kn : κ → γ) (ts : List (κ × Addr)) : List (γ × SV) := ts.reverse.map fun t => (kn t.1, .ptr t.2)
theorem grp_app (S : List β) (s : β) (c : κ) : grp key (S ++ [s]) c = grp key S c ++ (if key s = c then [s] else []) := by
  unfold grp
  rw [List.filter_append, List.filter_cons, List.filter_nil]
  by_cases h : key s = c <;> simp [h]
theorem GL_other {S : List β} {s : β} : ∀ {ts : List (κ × Addr)}, key s ∉ ts.map (·.1) → GL key enc (S ++ [s]) ts = GL key enc S ts
  | [], _ => rfl
  | t :: ts, h => by
    rw [List.map_cons, List.mem_cons, not_or] at h
    show (t.2, _) :: GL key enc (S ++ [s]) ts = (t.2, _) :: GL key enc S ts
    rw [GL_other h.2, grp_app, if_neg h.1, List.append_nil]
theorem GL_upd {S : List β} {s : β} {p : Addr} {rest : List (Addr × Cell)} : ∀ {ts : List (κ × Addr)}, (ts.map (·.1)).Nodup → (key s, p) ∈ ts →
    Upd (GL key enc S ts ++ rest) p (.lst ((grp key S (key s)).map enc)) (.lst ((grp key S (key s)).map enc ++ [enc s])) (GL key enc (S ++ [s]) ts ++ rest)
  | t :: ts, nd, h => by
    rw [List.map_cons, List.nodup_cons] at nd
    rcases List.mem_cons.mp h with h | h
    · subst h
      have e := GL_other (key := key) (enc := enc) (S := S) (s := s) nd.1
      show Upd ((p, _) :: (GL key enc S ts ++ rest)) p _ _ ((p, _) :: (GL key enc (S ++ [s]) ts ++ rest))
      rw [e]
      have e2 : (Cell.lst ((grp key (S ++ [s]) (key s)).map enc)) = .lst ((grp key S (key s)).map enc ++ [enc s]) := by
        rw [grp_app, if_pos rfl, List.map_append]
        rfl
      show Upd ((p, Cell.lst ((grp key S (key s)).map enc)) :: _) p _ _ ((p, Cell.lst ((grp key (S ++ [s]) (key s)).map enc)) :: _)
      rw [e2]
      exact .head
    · have hne : key s ≠ t.1 := fun e => nd.1 (by rw [← e]; exact List.mem_map.mpr ⟨_, h, rfl⟩)
      show Upd ((t.2, Cell.lst ((grp key S t.1).map enc)) :: (GL key enc S ts ++ rest)) p _ _ ((t.2, Cell.lst ((grp key (S ++ [s]) t.1).map enc)) :: (GL key enc (S ++ [s]) ts ++ rest))
      rw [grp_app, if_neg hne, List.append_nil]
      exact .tail (GL_upd nd.2 h)
theorem GK_look (hkn : ∀ a b, kn a = kn b → a = b) {ts : List (κ × Addr)} {c : κ} : (∀ v, lookS (GK kn ts) (kn c) = some v → ∃ p, (c, p) ∈ ts ∧ v = .ptr p) ∧ (lookS (GK kn ts) (kn c) = none → c ∉ ts.map (·.1)) := by
  unfold GK
  suffices h : ∀ us : List (κ × Addr), (∀ v, lookS (us.map fun t => (kn t.1, SV.ptr t.2)) (kn c) = some v → ∃ p, (c, p) ∈ us ∧ v = .ptr p) ∧ (lookS (us.map fun t => (kn t.1, SV.ptr t.2)) (kn c) = none → c ∉ us.map (·.1)) by
    obtain ⟨h1, h2⟩ := h ts.reverse
    refine ⟨fun v e => ?_, fun e => ?_⟩
    · obtain ⟨p, hp, e⟩ := h1 v e
      exact ⟨p, List.mem_reverse.mp hp, e⟩
    · have := h2 e
      rw [List.map_reverse, List.mem_reverse] at this
      exact this
  intro us
  induction us with
  | nil => exact ⟨fun v e => (by cases e), fun _ z => (by cases z)⟩
  | cons t us ih =>
    rw [List.map_cons]
    by_cases e : t.1 = c
    · subst e
      rw [look_hit]
      exact ⟨fun v e => ⟨t.2, List.mem_cons_self, (Option.some.inj e).symm⟩, fun e => (by cases e)⟩
    · rw [look_miss (fun z => e (hkn _ _ z))]
      refine ⟨fun v h => ?_, fun h => ?_⟩
      · obtain ⟨p, hp, e⟩ := ih.1 v h
        exact ⟨p, List.mem_cons_of_mem _ hp, e⟩
      · rw [List.map_cons, List.mem_cons, not_or]
        exact ⟨fun z => e z.symm, ih.2 h⟩
theorem GK_new (hkn : ∀ a b, kn a = kn b → a = b) {ts : List (κ × Addr)} {c : κ} {p : Addr} (h : c ∉ ts.map (·.1)) : putS (GK kn ts) (kn c) (.ptr p) = GK kn ((c, p) :: ts) := by
  have : ((GK kn ts).any fun kv => decide (kv.1 = kn c)) = false := by
    rw [List.any_eq_false]
    intro x hx
    obtain ⟨d, hd, rfl⟩ := List.mem_map.mp hx
    simp only [decide_eq_true_eq]
    exact fun z => h (by rw [← hkn _ _ z]; exact List.mem_map.mpr ⟨d, List.mem_reverse.mp hd, rfl⟩)
  unfold putS
  rw [this]
  unfold GK
  rw [List.reverse_cons, List.map_append]
  rfl
theorem GL_mem {S : List β} {ts : List (κ × Addr)} {c : κ} {p : Addr} {rest : List (Addr × Cell)} (h : (c, p) ∈ ts) : (p, Cell.lst ((grp key S c).map enc)) ∈ GL key enc S ts ++ rest :=
  List.mem_append_left _ (List.mem_map.mpr ⟨(c, p), h, rfl⟩)
def HasG (key : β → κ) (S : List β) (ts : List (κ × Addr)) : Prop := ∀ c, c ∈ ts.map (·.1) ↔ ∃ s ∈ S, key s = c
theorem HasG.same {S : List β} {ts : List (κ × Addr)} {s : β} (h : HasG key S ts) (hs : key s ∈ ts.map (·.1)) : HasG key (S ++ [s]) ts := fun c => by
  rw [h c]
  constructor
  · rintro ⟨t, ht, e⟩
    exact ⟨t, List.mem_append_left _ ht, e⟩
  · rintro ⟨t, ht, e⟩
    rcases List.mem_append.mp ht with ht | ht
    · exact ⟨t, ht, e⟩
    · rw [List.mem_singleton.mp ht] at e
      exact (h c).mp (by rw [← e]; exact hs)
theorem HasG.new {S : List β} {ts : List (κ × Addr)} {s : β} {p : Addr} (h : HasG key S ts) : HasG key (S ++ [s]) ((key s, p) :: ts) := fun c => by
  rw [List.map_cons, List.mem_cons, h c]
  constructor
  · rintro (e | ⟨t, ht, e⟩)
    · exact ⟨s, List.mem_append_right _ List.mem_cons_self, e.symm⟩
    · exact ⟨t, List.mem_append_left _ ht, e⟩
  · rintro ⟨t, ht, e⟩
    rcases List.mem_append.mp ht with ht | ht
    · exact .inr ⟨t, ht, e⟩
    · rw [List.mem_singleton.mp ht] at e
      exact .inl e.symm
theorem GL_new {S : List β} {ts : List (κ × Addr)} {s : β} {p : Addr} (h : HasG key S ts) (hn : key s ∉ ts.map (·.1)) : (p, Cell.lst [enc s]) :: GL key enc S ts = GL key enc (S ++ [s]) ((key s, p) :: ts) := by
  have e0 : grp key S (key s) = [] := by
    unfold grp
    rw [List.filter_eq_nil_iff]
    intro t ht e
    exact hn ((h (key s)).mpr ⟨t, ht, of_decide_eq_true e⟩)
  show _ = (p, Cell.lst ((grp key (S ++ [s]) (key s)).map enc)) :: GL key enc (S ++ [s]) ts
  rw [GL_other hn, grp_app, if_pos rfl, e0]
  rfl
end
/-! ### rows: where a row's cells begin and end -/
def rowOf (s : Sd) : Int := min s.1.2 s.2.2
def upr (s : Sd) : Bool := decide (s.1.1 = s.2.1)
def upE (s : Sd) : SV := .dat (.int s.1.1)
abbrev rowN (j : Int) : Key := .inl j
theorem rowN_inj (a b : Int) (h : rowN a = rowN b) : a = b := by injection h
def chg (p : Int → Bool) (n : Nat) : List Int := ((List.range n).map fun (k : Nat) => (k : Int)).filter fun x => p (x - 1) != p x
def runI (a b : Int) : List Int := (List.range (b - a).toNat).map fun (k : Nat) => a + (k : Int)
def fillR : List Int → List Int
  | a :: b :: r => runI a b ++ fillR r
  | _ => []
theorem fillR_app : ∀ (m : Nat) (xs ys : List Int), xs.length = 2 * m → fillR (xs ++ ys) = fillR xs ++ fillR ys
  | 0, xs, ys, h => by
    have : xs = [] := List.length_eq_zero_iff.mp h
    subst this
    rfl
  | m + 1, xs, ys, h => by
    match xs, h with
    | a :: b :: xs, h =>
      show runI a b ++ fillR (xs ++ ys) = (runI a b ++ fillR xs) ++ fillR ys
      rw [fillR_app m xs ys (by simp only [List.length_cons] at h; omega), List.append_assoc]
theorem ints_succ {a b : Int} (h : a ≤ b) : runI a (b + 1) = runI a b ++ [b] := by
  unfold runI
  rw [show (b + 1 - a).toNat = (b - a).toNat + 1 by omega, List.range_succ, List.map_append]
  congr 1
  show [a + (((b - a).toNat : Nat) : Int)] = [b]
  congr 1
  omega
/-- up to n: even many changes fill just what holds; odd many: one more run is open -/
theorem chg_fill (p : Int → Bool) (h0 : p (-1) = false) : ∀ n : Nat, ∃ m M, (M.length = 2 * m ∧ fillR M ++ (if p ((n : Int) - 1) then runI (chg p n |>.getLastD 0) n else []) = ((List.range n).map fun (k : Nat) => (k : Int)).filter p) ∧
    chg p n = M ++ (if p ((n : Int) - 1) then [chg p n |>.getLastD 0] else []) ∧ (p ((n : Int) - 1) = true → (chg p n).getLastD 0 ≤ n)
  | 0 => ⟨0, [], ⟨rfl, by
      rw [show ((0 : Nat) : Int) - 1 = -1 from rfl, h0]
      rfl⟩, by
      rw [show ((0 : Nat) : Int) - 1 = -1 from rfl, h0]
      rfl, fun z => by
      rw [show ((0 : Nat) : Int) - 1 = -1 from rfl, h0] at z
      cases z⟩
  | n + 1 => by
    obtain ⟨m, M, ⟨h1, h2⟩, h3, h4⟩ := chg_fill p h0 n
    have en : ((n + 1 : Nat) : Int) - 1 = (n : Int) := by omega
    have ec : chg p (n + 1) = chg p n ++ (if p ((n : Int) - 1) != p n then [(n : Int)] else []) := by
      unfold chg
      rw [List.range_succ, List.map_append, List.filter_append, List.map_cons, List.map_nil, List.filter_cons, List.filter_nil]
    have ef : ((List.range (n + 1)).map fun (k : Nat) => (k : Int)).filter p = ((List.range n).map fun (k : Nat) => (k : Int)).filter p ++ (if p n then [(n : Int)] else []) := by
      rw [List.range_succ, List.map_append, List.filter_append, List.map_cons, List.map_nil, List.filter_cons, List.filter_nil]
    rw [en, ef, ← h2]
    cases ha : p ((n : Int) - 1) with
    | false =>
      rw [ha] at ec h3 h4
      simp only [Bool.false_eq_true, if_false, List.append_nil] at h3
      cases hb : p n with
      | false =>
        rw [hb] at ec
        have e : chg p (n + 1) = chg p n := by rw [ec]; simp
        rw [e]
        exact ⟨m, M, ⟨h1, by simp⟩, by simpa using h3, fun z => by cases z⟩
      | true =>
        rw [hb] at ec
        have e : chg p (n + 1) = chg p n ++ [(n : Int)] := by rw [ec]; rfl
        have el : (chg p (n + 1)).getLastD 0 = n := by rw [e]; exact List.getLastD_concat
        rw [el]
        refine ⟨m, M, ⟨h1, ?_⟩, ?_, fun _ => by omega⟩
        · have : runI (n : Int) ((n + 1 : Nat) : Int) = [(n : Int)] := by
            unfold runI
            rw [show (((n + 1 : Nat) : Int) - (n : Int)).toNat = 1 by omega]
            show [(n : Int) + ((0 : Nat) : Int)] = [(n : Int)]
            congr 1
          rw [this]
          simp
        · rw [e, h3]
          simp
    | true =>
      rw [ha] at ec h3 h4
      simp only [if_true] at h3
      have h5 := h4 rfl
      cases hb : p n with
      | true =>
        rw [hb] at ec
        have e : chg p (n + 1) = chg p n := by rw [ec]; simp
        rw [e]
        refine ⟨m, M, ⟨h1, ?_⟩, by simpa using h3, fun _ => by omega⟩
        simp only [if_true]
        rw [show ((n + 1 : Nat) : Int) = (n : Int) + 1 by omega, ints_succ h5, List.append_assoc]
      | false =>
        rw [hb] at ec
        have e : chg p (n + 1) = chg p n ++ [(n : Int)] := by rw [ec]; rfl
        refine ⟨m + 1, chg p n ++ [(n : Int)], ⟨?_, ?_⟩, by rw [e]; simp, fun z => by cases z⟩
        · rw [h3, List.length_append, List.length_append, h1]
          simp
          omega
        · simp only [if_true, Bool.false_eq_true, if_false, List.append_nil]
          have h6 : fillR (chg p n ++ [(n : Int)]) = fillR M ++ runI ((chg p n).getLastD 0) n := by
            conv => lhs; rw [h3]
            rw [List.append_assoc, fillR_app m M _ h1]
            congr 1
            show runI _ _ ++ fillR [] = _
            rw [show fillR [] = [] from rfl, List.append_nil]
          rw [h6]
theorem chg_full {p : Int → Bool} (h0 : p (-1) = false) {n : Nat} (hn : p ((n : Int) - 1) = false) : ∃ m, (chg p n).length = 2 * m ∧ fillR (chg p n) = ((List.range n).map fun (k : Nat) => (k : Int)).filter p := by
  obtain ⟨m, M, ⟨h1, h2⟩, h3, _⟩ := chg_fill p h0 n
  rw [hn] at h2 h3
  simp only [Bool.false_eq_true, if_false, List.append_nil] at h2 h3
  exact ⟨m, by rw [h3]; exact h1, by rw [h3]; exact h2⟩
def inRow (cs : List Cl) (j : Int) (i : Int) : Bool := decide ((i, j) ∈ cs)
/-- the upright sides of a row, by where they stand -/
theorem row_mem {cs : List Cl} {j x : Int} : x ∈ ((grp rowOf ((Sds cs).filter upr) j).map fun s => s.1.1) ↔ (inRow cs j (x - 1) != inRow cs j x) = true := by
  rw [List.mem_map]
  unfold grp inRow upr rowOf
  constructor
  · rintro ⟨s, hs, rfl⟩
    rw [List.mem_filter, List.mem_filter, decide_eq_true_eq, decide_eq_true_eq, S_mem] at hs
    obtain ⟨⟨h1, h2⟩, h3⟩ := hs
    cases h1 with
    | east i k a b => simp only at h2; omega
    | west i k a b => simp only at h2; omega
    | north i k a b =>
      simp only at h3 ⊢
      have : k = j := by omega
      subst this
      rw [decide_eq_true a, decide_eq_false b]
      rfl
    | south i k a b =>
      simp only at h3 ⊢
      have : k - 1 = j := by omega
      subst this
      rw [decide_eq_true a, decide_eq_false b]
      rfl
  · intro h
    by_cases a : (x - 1, j) ∈ cs
    · have b : (x, j) ∉ cs := fun b => by rw [decide_eq_true a, decide_eq_true b] at h; cases h
      refine ⟨((x, j), (x, j + 1)), ?_, rfl⟩
      rw [List.mem_filter, List.mem_filter, decide_eq_true_eq, decide_eq_true_eq, S_mem]
      exact ⟨⟨.north x j a b, rfl⟩, by simp only; omega⟩
    · have b : (x, j) ∈ cs := Classical.byContradiction fun b => by rw [decide_eq_false a, decide_eq_false b] at h; cases h
      refine ⟨((x, j + 1), (x, j)), ?_, rfl⟩
      rw [List.mem_filter, List.mem_filter, decide_eq_true_eq, decide_eq_true_eq, S_mem]
      have := Side.south (cs := cs) x (j + 1) (by rw [Int.add_sub_cancel]; exact b) (by rw [Int.add_sub_cancel]; exact a)
      rw [Int.add_sub_cancel] at this
      exact ⟨⟨this, rfl⟩, by simp only; omega⟩
theorem row_nodup {cs : List Cl} (hn : cs.Nodup) (j : Int) : ((grp rowOf ((Sds cs).filter upr) j).map fun s => s.1.1).Nodup := by
  have h1 : (grp rowOf ((Sds cs).filter upr) j).Nodup := ((S_nodup hn).filter _).filter _
  have h2 : ∀ s ∈ grp rowOf ((Sds cs).filter upr) j, Side cs s ∧ s.1.1 = s.2.1 ∧ min s.1.2 s.2.2 = j := fun s hs => by
    unfold grp rowOf upr at hs
    rw [List.mem_filter, List.mem_filter, decide_eq_true_eq, decide_eq_true_eq, S_mem] at hs
    exact ⟨hs.1.1, hs.1.2, hs.2⟩
  generalize grp rowOf ((Sds cs).filter upr) j = L at h1 h2
  induction L with
  | nil => exact List.nodup_nil
  | cons s L ih =>
    rw [List.nodup_cons] at h1
    rw [List.map_cons, List.nodup_cons]
    refine ⟨fun z => ?_, ih h1.2 fun t ht => h2 t (List.mem_cons_of_mem _ ht)⟩
    obtain ⟨t, ht, e⟩ := List.mem_map.mp z
    obtain ⟨a1, a2, a3⟩ := h2 s List.mem_cons_self
    obtain ⟨b1, b2, b3⟩ := h2 t (List.mem_cons_of_mem _ ht)
    have hne : t ≠ s := fun q => h1.1 (by rw [← q]; exact ht)
    cases a1 with
    | east i k _ _ => simp only at a2; omega
    | west i k _ _ => simp only at a2; omega
    | north i k u1 u2 =>
      cases b1 with
      | east i2 k2 _ _ => simp only at b2; omega
      | west i2 k2 _ _ => simp only at b2; omega
      | north i2 k2 v1 v2 =>
        simp only at a3 b3 e
        have e1 : k2 = k := by omega
        subst e e1
        exact hne rfl
      | south i2 k2 v1 v2 =>
        simp only at a3 b3 e
        have e1 : k2 - 1 = k := by omega
        subst e e1
        exact u2 v1
    | south i k u1 u2 =>
      cases b1 with
      | east i2 k2 _ _ => simp only at b2; omega
      | west i2 k2 _ _ => simp only at b2; omega
      | north i2 k2 v1 v2 =>
        simp only at a3 b3 e
        have e1 : k2 = k - 1 := by omega
        subst e e1
        exact v2 u1
      | south i2 k2 v1 v2 =>
        simp only at a3 b3 e
        have e1 : k2 = k := by omega
        subst e e1
        exact hne rfl
def In07 (cs : List Cl) : Prop := ∀ c ∈ cs, 0 ≤ c.1 ∧ c.1 ≤ 6
theorem row_perm {cs : List Cl} (hn : cs.Nodup) (hb : In07 cs) {W : List Sd} (hW : W.Perm (Sds cs)) (j : Int) : ((grp rowOf (W.filter upr) j).map fun s => s.1.1).Perm (chg (inRow cs j) 8) := by
  have h1 : ((grp rowOf (W.filter upr) j).map fun s => s.1.1).Perm ((grp rowOf ((Sds cs).filter upr) j).map fun s => s.1.1) := ((hW.filter _).filter _).map _
  refine h1.trans ((List.perm_ext_iff_of_nodup (row_nodup hn j) ?_).mpr fun x => ?_)
  · unfold chg
    refine List.Pairwise.filter _ ?_
    show List.Pairwise (· ≠ ·) _
    rw [List.pairwise_map]
    exact List.nodup_range.imp fun {a b} hab e => hab (by omega)
  · rw [row_mem]
    unfold chg
    rw [List.mem_filter, List.mem_map]
    constructor
    · intro h
      refine ⟨⟨x.toNat, List.mem_range.mpr ?_, ?_⟩, h⟩
      all_goals
        have hx : 0 ≤ x ∧ x ≤ 7 := by
          unfold inRow at h
          by_cases a : (x - 1, j) ∈ cs
          · have := hb _ a
            simp only at this
            omega
          · by_cases b : (x, j) ∈ cs
            · have := hb _ b
              simp only at this
              omega
            · rw [decide_eq_false a, decide_eq_false b] at h
              cases h
        omega
    · exact fun h => h.2
theorem row_full {cs : List Cl} (hb : In07 cs) (j : Int) : ∃ m, (chg (inRow cs j) 8).length = 2 * m ∧ fillR (chg (inRow cs j) 8) = ((List.range 8).map fun (k : Nat) => (k : Int)).filter (inRow cs j) := by
  refine chg_full ?_ ?_
  · unfold inRow
    exact decide_eq_false fun h => by have := hb _ h; simp only at this; omega
  · unfold inRow
    exact decide_eq_false fun h => by have := hb _ h; simp only at this; omega
/-- all rows' cells -/
def rowCells (cs : List Cl) (j : Int) : List Cl := (((List.range 8).map fun (k : Nat) => (k : Int)).filter (inRow cs j)).map fun i => (i, j)
theorem rows_perm {cs : List Cl} (hn : cs.Nodup) (hb : In07 cs) {js : List Int} (hj : js.Nodup) (hall : ∀ j, j ∈ js ↔ ∃ s ∈ (Sds cs).filter upr, rowOf s = j) : (js.flatMap (rowCells cs)).Perm cs := by
  refine (List.perm_ext_iff_of_nodup ?_ hn).mpr fun c => ?_
  · show List.Pairwise (· ≠ ·) _
    rw [List.pairwise_flatMap]
    refine ⟨fun j _ => ?_, hj.imp fun {a b} hab x hx y hy e => hab ?_⟩
    · unfold rowCells
      rw [List.pairwise_map]
      refine List.Pairwise.filter _ ?_
      rw [List.pairwise_map]
      exact List.nodup_range.imp fun {a b} hab e => hab (by have := congrArg Prod.fst e; simp only at this; omega)
    · unfold rowCells at hx hy
      obtain ⟨_, _, rfl⟩ := List.mem_map.mp hx
      obtain ⟨_, _, rfl⟩ := List.mem_map.mp hy
      exact congrArg Prod.snd e
  · rw [List.mem_flatMap]
    constructor
    · rintro ⟨j, _, h⟩
      obtain ⟨i, hi, rfl⟩ := List.mem_map.mp h
      exact of_decide_eq_true (List.mem_filter.mp hi).2
    · intro h
      obtain ⟨i, j⟩ := c
      have hi := hb _ h
      simp only at hi
      refine ⟨j, (hall j).mpr ?_, List.mem_map.mpr ⟨i, List.mem_filter.mpr ⟨List.mem_map.mpr ⟨i.toNat, List.mem_range.mpr (by omega), by omega⟩, decide_eq_true h⟩, rfl⟩⟩
      have : ∀ (n : Nat) (i : Int), i = (n : Int) → (i, j) ∈ cs → ∃ x, (inRow cs j (x - 1) != inRow cs j x) = true := by
        intro n
        induction n with
        | zero =>
          intro i e h
          refine ⟨i, ?_⟩
          have h2 : (i - 1, j) ∉ cs := fun z => by have := hb _ z; simp only at this; omega
          unfold inRow
          rw [decide_eq_true h, decide_eq_false h2]
          rfl
        | succ n ih =>
          intro i e h
          by_cases h2 : (i - 1, j) ∈ cs
          · exact ih (i - 1) (by omega) h2
          · refine ⟨i, ?_⟩
            unfold inRow
            rw [decide_eq_true h, decide_eq_false h2]
            rfl
      obtain ⟨x, hx⟩ := this i.toNat i (by omega) h
      obtain ⟨s, hs, _⟩ := List.mem_map.mp (row_mem.mpr hx)
      unfold grp at hs
      rw [List.mem_filter, decide_eq_true_eq] at hs
      exact ⟨s, hs.1, hs.2⟩

theorem ints_alike (l : List Int) : PySem.W.AllAlike (l.map PyData.int) := PySem.W.AllAlike.of fun a b => by simp [PySem.W.alike]
theorem dsort_ints {l m : List Int} (hm : m.Pairwise fun a b => a < b) (p : l.Perm m) : dsort (l.map PyData.int) = m.map PyData.int := by
  rw [dsort_eq (p.map PyData.int) (ints_alike l) (plainA_map (fun _ => rfl) l)]
  refine List.mergeSort_of_pairwise (List.pairwise_map.mpr (hm.imp fun {a b} h => ?_))
  show (!PySem.W.dataLt (.int b) (.int a)) = true
  rw [PySem.W.dataLt_int, decide_eq_false (by omega)]
  rfl
theorem chg_rise (p : Int → Bool) (n : Nat) : (chg p n).Pairwise fun a b => a < b := by
  unfold chg
  refine List.Pairwise.filter _ ?_
  rw [List.pairwise_map]
  exact List.pairwise_lt_range.imp fun {a b} h => by omega
theorem chg_len (p : Int → Bool) (n : Nat) : (chg p n).length ≤ n := by
  unfold chg
  exact Nat.le_trans (List.length_filter_le _ _) (by rw [List.length_map, List.length_range]; exact Nat.le_refl _)

theorem GK_at {κ γ : Type} [DecidableEq κ] [DecidableEq γ] {kn : κ → γ} (hkn : ∀ a b, kn a = kn b → a = b) {ts : List (κ × Addr)} {c : κ} {p : Addr} (nd : (ts.map (·.1)).Nodup) (h : (c, p) ∈ ts) : lookS (GK kn ts) (kn c) = some (.ptr p) := by
  cases e : lookS (GK kn ts) (kn c) with
  | none => exact absurd (List.mem_map.mpr ⟨_, h, rfl⟩) ((GK_look hkn).2 e)
  | some v =>
    obtain ⟨q, hq, rfl⟩ := (GK_look hkn).1 v e
    have : p = q := by
      clear e
      induction ts with
      | nil => cases h
      | cons t ts ih =>
        rw [List.map_cons, List.nodup_cons] at nd
        rcases List.mem_cons.mp h with h1 | h1 <;> rcases List.mem_cons.mp hq with h2 | h2
        · rw [← h1] at h2
          exact (congrArg Prod.snd h2).symm
        · exact absurd (List.mem_map.mpr ⟨_, h2, rfl⟩) (by rw [← h1] at nd; exact nd.1)
        · exact absurd (List.mem_map.mpr ⟨_, h1, rfl⟩) (by rw [← h2] at nd; exact nd.1)
        · exact ih nd.2 h1 h2
    rw [this]
theorem go_trim1 {K : PySem.W.Frag} {I : Blk} {x : Addr × Cell} {l : List (Addr × Cell)} {tu : TS} {S : List SV} {E : DE} : ∀ {G : List (Addr × Cell)}, Go K ⟨I, x :: l⟩ tu S E → Go K ⟨I, x :: (G ++ l)⟩ tu S E
  | [], h => h
  | (p, c) :: G, h => go_loss (A := ⟨I, x :: (p, c) :: (G ++ l)⟩) (.tail .head) (go_trim1 (G := G) h)
theorem fill_take {M : List Int} {m t : Nat} (hM : M.length = 2 * m) (ht : t < m) : ∃ a b, M[2 * t]? = some a ∧ M[2 * t + 1]? = some b ∧ fillR (M.take (2 * (t + 1))) = fillR (M.take (2 * t)) ++ runI a b := by
  have h1 : M[2 * t]? = some M[2 * t] := List.getElem?_eq_getElem (by omega)
  have h2 : M[2 * t + 1]? = some M[2 * t + 1] := List.getElem?_eq_getElem (by omega)
  refine ⟨_, _, h1, h2, ?_⟩
  have e : M.take (2 * (t + 1)) = M.take (2 * t) ++ [M[2 * t], M[2 * t + 1]] := by
    rw [show 2 * (t + 1) = 2 * t + 1 + 1 by omega, List.take_add_one, List.take_add_one, h1, h2, List.append_assoc]
    rfl
  rw [e, fillR_app t _ _ (by rw [List.length_take]; omega)]
  congr 1
  show runI _ _ ++ fillR [] = _
  rw [show fillR [] = [] from rfl, List.append_nil]
theorem fill_len {M : List Int} {m t n : Nat} (hM : M.length = 2 * m) (ht : t ≤ m) (hn : (fillR M).length ≤ n) : (fillR (M.take (2 * t))).length ≤ n := by
  have e := fillR_app t (M.take (2 * t)) (M.drop (2 * t)) (by rw [List.length_take]; omega)
  rw [List.take_append_drop] at e
  rw [e, List.length_append] at hn
  omega

theorem cells_alike (l : List Cl) : PySem.W.AllAlike (l.map cD) := PySem.W.AllAlike.of fun a b => by simp [cD, PySem.W.alike, PySem.W.alikeAll]
theorem cells_sort (l : List Cl) : PySem.W.Sortable (l.map cD) := PySem.W.Sortable.tuples fun a => ⟨_, _, rfl⟩
theorem cells_depth (l : List Cl) : ∀ d ∈ l.map cD, d.depth ≤ 60 := fun d hd => by
  obtain ⟨s, _, rfl⟩ := List.mem_map.mp hd
  have := cD_depth s
  omega

theorem ctsL_shaped (l : List (List Cl)) : SeqAt.shaped (.list (l.map ctD)) = true := shaped_plain (by simp only [plainD]; exact cts_plain l) (by
  have h := depthAll_map ct_depth l
  simp only [PyData.depth]
  omega)
theorem eq_nilL {α : Type} (f : α → PyData) (l : List α) : PyData.eqv (.list (l.map f)) (.list []) = l.isEmpty := by
  cases l <;> simp [PyData.eqv, PyData.eqvAll]
theorem erase_perm {α : Type} {x : α} : ∀ {l : List α} {j : Nat}, l[j]? = some x → (x :: l.eraseIdx j).Perm l
  | a :: l, 0, h => by
    obtain rfl : a = x := Option.some.inj h
    exact List.Perm.refl _
  | a :: l, j + 1, h => (List.Perm.swap a x _).trans (List.Perm.cons a (erase_perm (l := l) (j := j) h))
theorem erase_map {α β : Type} (f : α → β) : ∀ (l : List α) (j : Nat), (l.map f).eraseIdx j = (l.eraseIdx j).map f
  | [], _ => rfl
  | _ :: _, 0 => rfl
  | a :: l, j + 1 => by
    show f a :: (l.map f).eraseIdx j = f a :: (l.eraseIdx j).map f
    rw [erase_map f l j]
noncomputable abbrev tkD (r : List Sd) : PyData := ctD (tk r)

abbrev RisC (cs : List Cl) : Prop := cs.Pairwise fun a b => ltP a b = true
theorem RisC.nodup {cs : List Cl} (h : RisC cs) : cs.Nodup := h.imp fun {a b} q e => by rw [e, ltP_irr] at q; cases q
theorem boxC_ris (w h : Nat) : RisC (boxC w h) := by
  unfold boxC RisC
  rw [List.pairwise_flatMap]
  refine ⟨fun i _ => ?_, ?_⟩
  · rw [List.pairwise_map]
    refine List.pairwise_lt_range.imp fun {a b} hab => ?_
    unfold ltP
    rw [if_pos rfl]
    exact decide_eq_true (by simp only; omega)
  · refine List.pairwise_lt_range.imp fun {a b} hab x hx y hy => ?_
    obtain ⟨u, _, rfl⟩ := List.mem_map.mp hx
    obtain ⟨v, _, rfl⟩ := List.mem_map.mp hy
    unfold ltP
    rw [if_neg (by simp only; omega)]
    exact decide_eq_true (by simp only; omega)
theorem dsort_risC {l m : List Cl} (hm : RisC m) (p : l.Perm m) : dsort (l.map cD) = m.map cD := by
  rw [dsort_eq (p.map cD) (cells_alike l) (plainA_map cD_plain l)]
  refine List.mergeSort_of_pairwise (List.pairwise_map.mpr (hm.imp fun {a b} h => ?_))
  show (!PySem.W.dataLt (cD b) (cD a)) = true
  rw [lt_cD, ltP_asym h]
  rfl
/-- rings, in the order in which they are told -/
noncomputable def tkSort (rs : List (List Sd)) : List (List Sd) := rs.mergeSort fun a b => PySem.W.dataLe false id (tkD a) (tkD b)
theorem tkSort_map (rs : List (List Sd)) : dsort ((rs.map tk).map ctD) = (tkSort rs).map tkD := by
  rw [List.map_map]
  have : (tkSort rs).map tkD = (rs.map tkD).mergeSort (PySem.W.dataLe false id) := List.map_mergeSort (f := tkD) (r := fun a b => PySem.W.dataLe false id (tkD a) (tkD b)) (s := PySem.W.dataLe false id) fun a _ b _ => rfl
  exact this.symm
theorem tkSort_perm (rs : List (List Sd)) : (tkSort rs).Perm rs := List.mergeSort_perm _ _
theorem tks_small {cs : List Cl} {rs hs : List (List Sd)} (h : Rings cs rs) (hc : Region cs) (hp : hs.Perm rs) : smallA (hs.map tkD) = true ∧ wtA (hs.map tkD) ≤ 900000 ∧ PyData.depthAll (hs.map tkD) ≤ 50 := by
  have hm : ∀ r ∈ hs, (tk r).length ≤ 196 ∧ ∀ c ∈ tk r, smallC c := fun r hr => by
    have hr := hp.mem_iff.mp hr
    obtain ⟨h1, h2⟩ := tk_mem (h.told r hr)
    refine ⟨Nat.le_trans h1 (h.len r hr).1, fun c hc2 => ?_⟩
    obtain ⟨s, hs, rfl⟩ := h2 c hc2
    exact (S_small hc s (h.side r hr s hs)).1
  refine ⟨?_, ?_, ?_⟩
  · refine smallA_mem.mpr fun x hx => ?_
    obtain ⟨p, hp, rfl⟩ := List.mem_map.mp hx
    show smallA ((tk p).map cD) = true
    refine smallA_mem.mpr fun y hy => ?_
    obtain ⟨c, hc, rfl⟩ := List.mem_map.mp hy
    exact cD_small ((hm p hp).2 c hc)
  · have h1 := wtA_le (n := 6079) (xs := hs.map tkD) fun x hx => by
      obtain ⟨p, hp, rfl⟩ := List.mem_map.mp hx
      have h2 := wtA_le (n := 29) (xs := (tk p).map cD) fun y hy => by
        obtain ⟨c, hc, rfl⟩ := List.mem_map.mp hy
        rw [cD_wt]
        exact Nat.le_refl _
      have h3 := (hm p hp).1
      rw [List.length_map] at h2
      show wtA ((tk p).map cD) + 3 ≤ 6079
      omega
    have h4 := h.many
    rw [List.length_map, hp.length_eq] at h1
    omega
  · exact Nat.le_trans (depthAll_le (n := 2) fun x hx => by
      obtain ⟨p, hp, rfl⟩ := List.mem_map.mp hx
      exact ct_depth (tk p)) (by decide)
theorem small_seq {xs : List PyData} {d : PyData} (hd : d = .list xs ∨ d = .tuple xs) (h : smallA xs = true ∧ wtA xs ≤ 900000 ∧ PyData.depthAll xs ≤ 50) : smallD d = true ∧ wtD d ≤ 1000000 ∧ d.depth ≤ 60 := by
  obtain ⟨h1, h2, h3⟩ := h
  rcases hd with rfl | rfl
  · refine ⟨by simpa [smallD] using h1, ?_, ?_⟩
    · simp only [wtD]; omega
    · simp only [PyData.depth]; omega
  · refine ⟨by simpa [smallD] using h1, ?_, ?_⟩
    · simp only [wtD]; omega
    · simp only [PyData.depth]; omega

/-! ### regions far apart -/
theorem nx_congr {P U : List Cl} {s : Sd} (h : ∀ i j : Int, (i = s.2.1 ∨ i = s.2.1 - 1) → (j = s.2.2 ∨ j = s.2.2 - 1) → ((i, j) ∈ P ↔ (i, j) ∈ U)) : nx P s = nx U s := by
  have h1 : s.2 ∈ P ↔ s.2 ∈ U := h s.2.1 s.2.2 (.inl rfl) (.inl rfl)
  have h2 := h (s.2.1 - 1) s.2.2 (.inr rfl) (.inl rfl)
  have h3 := h s.2.1 (s.2.2 - 1) (.inl rfl) (.inr rfl)
  have h4 := h (s.2.1 - 1) (s.2.2 - 1) (.inr rfl) (.inr rfl)
  unfold nx
  simp only [h1, h2, h3, h4]
def Apart (P Q : List Cl) : Prop := ∀ c ∈ P, ∀ d ∈ Q, c.1 + 2 ≤ d.1
/-- the cell on the left of a side, and where the side ends -/
theorem side_near {cs : List Cl} {s : Sd} (h : Side cs s) : ∃ c ∈ cs, (s.2.1 = c.1 ∨ s.2.1 = c.1 + 1) := by
  cases h with
  | east i j a b => exact ⟨_, a, .inr rfl⟩
  | north i j a b => exact ⟨_, a, .inr (by simp only; omega)⟩
  | west i j a b => exact ⟨_, a, .inl rfl⟩
  | south i j a b => exact ⟨_, a, .inl rfl⟩
theorem nx_left {P Q : List Cl} (h : Apart P Q) {s : Sd} (hs : Side P s) : nx P s = nx (P ++ Q) s := by
  obtain ⟨c, hc, hx⟩ := side_near hs
  refine nx_congr fun i j hi hj => ?_
  rw [List.mem_append]
  exact ⟨.inl, fun z => z.resolve_right fun q => by have := h c hc _ q; simp only at this; omega⟩
theorem nx_right {P Q : List Cl} (h : Apart P Q) {s : Sd} (hs : Side Q s) : nx Q s = nx (P ++ Q) s := by
  obtain ⟨c, hc, hx⟩ := side_near hs
  refine nx_congr fun i j hi hj => ?_
  rw [List.mem_append]
  exact ⟨.inr, fun z => z.resolve_left fun q => by have := h _ q c hc; simp only at this; omega⟩
theorem side_apart {P Q : List Cl} (h : Apart P Q) {s : Sd} : Side (P ++ Q) s ↔ Side P s ∨ Side Q s := by
  have nP : ∀ {i j k l : Int}, (i, j) ∈ P → k ≤ i + 1 → (k, l) ∉ Q := fun hp hk q => by have := h _ hp _ q; simp only at this; omega
  have nQ : ∀ {i j k l : Int}, (i, j) ∈ Q → i ≤ k + 1 → (k, l) ∉ P := fun hp hk q => by have := h _ q _ hp; simp only at this; omega
  constructor
  · intro hs
    cases hs with
    | east i j a b =>
      rw [List.mem_append, not_or] at b
      exact (List.mem_append.mp a).imp (fun a => .east i j a b.1) fun a => .east i j a b.2
    | north i j a b =>
      rw [List.mem_append, not_or] at b
      exact (List.mem_append.mp a).imp (fun a => .north i j a b.1) fun a => .north i j a b.2
    | west i j a b =>
      rw [List.mem_append, not_or] at b
      exact (List.mem_append.mp a).imp (fun a => .west i j a b.1) fun a => .west i j a b.2
    | south i j a b =>
      rw [List.mem_append, not_or] at b
      exact (List.mem_append.mp a).imp (fun a => .south i j a b.1) fun a => .south i j a b.2
  · rintro (hs | hs)
    · cases hs with
      | east i j a b => exact .east i j (List.mem_append_left _ a) (by rw [List.mem_append, not_or]; exact ⟨b, nP a (by omega)⟩)
      | north i j a b => exact .north i j (List.mem_append_left _ a) (by rw [List.mem_append, not_or]; exact ⟨b, nP a (by omega)⟩)
      | west i j a b => exact .west i j (List.mem_append_left _ a) (by rw [List.mem_append, not_or]; exact ⟨b, nP a (by omega)⟩)
      | south i j a b => exact .south i j (List.mem_append_left _ a) (by rw [List.mem_append, not_or]; exact ⟨b, nP a (by omega)⟩)
    · cases hs with
      | east i j a b => exact .east i j (List.mem_append_right _ a) (by rw [List.mem_append, not_or]; exact ⟨nQ a (by omega), b⟩)
      | north i j a b => exact .north i j (List.mem_append_right _ a) (by rw [List.mem_append, not_or]; exact ⟨nQ a (by omega), b⟩)
      | west i j a b => exact .west i j (List.mem_append_right _ a) (by rw [List.mem_append, not_or]; exact ⟨nQ a (by omega), b⟩)
      | south i j a b => exact .south i j (List.mem_append_right _ a) (by rw [List.mem_append, not_or]; exact ⟨nQ a (by omega), b⟩)
theorem side_two {P Q : List Cl} (h : Apart P Q) {s : Sd} (h1 : Side P s) (h2 : Side Q s) : False := by
  obtain ⟨c, hc, hx⟩ := side_near h1
  obtain ⟨d, hd, hy⟩ := side_near h2
  have := h c hc d hd
  omega
theorem S_apart {P Q : List Cl} (h : Apart P Q) (hp : P.Nodup) (hq : Q.Nodup) : (Sds P ++ Sds Q).Perm (Sds (P ++ Q)) := by
  have hn : (P ++ Q).Nodup := by
    rw [List.nodup_append]
    exact ⟨hp, hq, fun a ha b hb e => by have := h a ha b hb; rw [e] at this; omega⟩
  refine (List.perm_ext_iff_of_nodup ?_ (S_nodup hn)).mpr fun s => ?_
  · rw [List.nodup_append]
    exact ⟨S_nodup hp, S_nodup hq, fun a ha b hb e => side_two h (S_mem.mp ha) (by rw [e]; exact S_mem.mp hb)⟩
  · rw [List.mem_append, S_mem, S_mem, S_mem, side_apart h]
theorem rings_apart {P Q : List Cl} (h : Apart P Q) {ru rp rq : List (List Sd)} (hu : Rings (P ++ Q) ru) (hp : Rings P rp) (hq : Rings Q rq) : (ru.map tk).Perm (rp.map tk ++ rq.map tk) := by
  have := rings_parts hu (parts := [false, true]) (P := fun b => cond b Q P) (R := fun b => cond b rq rp) (fun b _ => by cases b <;> assumption) ?_ (fun s => ?_) (fun b _ x hx => ?_)
  · simpa using this
  · simp only [List.pairwise_cons, List.mem_singleton, forall_eq, List.not_mem_nil, false_implies, implies_true, List.Pairwise.nil, and_self, and_true]
    exact fun x h1 h2 => side_two h (S_mem.mp h1) (S_mem.mp h2)
  · rw [S_mem, side_apart h]
    constructor
    · rintro (a | a)
      · exact ⟨false, by simp, S_mem.mpr a⟩
      · exact ⟨true, by simp, S_mem.mpr a⟩
    · rintro ⟨b, _, hb⟩
      cases b
      · exact .inl (S_mem.mp hb)
      · exact .inr (S_mem.mp hb)
  · cases b
    · exact nx_left h (S_mem.mp hx)
    · exact nx_right h (S_mem.mp hx)
def shift4 (c : Cl) : Cl := (c.1 + 4, c.2)
theorem shift_small {c : Cl} (h : c ∈ boxC 3 3) : 0 ≤ c.1 ∧ c.1 ≤ 2 ∧ 0 ≤ c.2 ∧ c.2 ≤ 2 := by
  have := boxC_mem h
  omega

theorem eqv_refl {d : PyData} (h : plainD d = true) : PyData.eqv d d = true := by
  have := eqv_enc (f := fun _ : Unit => d) (fun _ => h) (fun _ _ _ => rfl) () ()
  rw [this]
  exact decide_eq_true rfl
theorem tksL_shaped (rs : List (List Sd)) : SeqAt.shaped (.list (rs.map tkD)) = true := by
  have := ctsL_shaped (rs.map tk)
  rw [List.map_map] at this
  exact this
theorem tksL_plain (rs : List (List Sd)) : plainD (.list (rs.map tkD)) = true := by
  simp only [plainD]
  exact plainA_map (fun r => ct_plain (tk r)) rs
/-! ### dicts by cells -/
def cellK (c : Cl) : NestedKey := .tup [.num c.1, .num c.2]
theorem cellK_inj {a b : Cl} (h : cellK a = cellK b) : a = b := by
  unfold cellK at h
  simp only [NestedKey.tup.injEq, List.cons.injEq, NestedKey.num.injEq, and_true] at h
  exact Prod.ext h.1 h.2
theorem cellK_key (c : Cl) : KeyS (.dat (cD c)) (cellK c) := ⟨rfl, ⟨_, rfl⟩, by simp [cellK, NestedKey.depth, NestedKey.depthAll]⟩
def valK (f : Cl → SV) (cs : List Cl) : List (NestedKey × SV) := cs.map fun c => (cellK c, f c)
theorem look_val {f : Cl → SV} {c : Cl} : ∀ {cs : List Cl}, c ∈ cs → lookS (valK f cs) (cellK c) = some (f c)
  | d :: cs, h => by
    show lookS ((cellK d, f d) :: valK f cs) (cellK c) = _
    by_cases e : d = c
    · rw [e]; exact look_hit
    · rw [look_miss (fun z => e (cellK_inj z))]
      exact look_val ((List.mem_cons.mp h).resolve_left fun z => e z.symm)
theorem look_out {f : Cl → SV} {c : Cl} : ∀ {cs : List Cl}, c ∉ cs → lookS (valK f cs) (cellK c) = none
  | [], _ => rfl
  | d :: cs, h => by
    show lookS ((cellK d, f d) :: valK f cs) (cellK c) = _
    rw [look_miss (fun z => h (by rw [cellK_inj z]; exact List.mem_cons_self))]
    exact look_out fun z => h (List.mem_cons_of_mem _ z)
theorem look_is (f : Cl → SV) (c : Cl) (cs : List Cl) : (lookS (valK f cs) (cellK c)).isSome = decide (c ∈ cs) := by
  by_cases h : c ∈ cs
  · rw [look_val h, decide_eq_true h]; rfl
  · rw [look_out h, decide_eq_false h]; rfl
theorem val_any {f : Cl → SV} {c : Cl} {cs : List Cl} : ((valK f cs).any fun kv => decide (kv.1 = cellK c)) = decide (c ∈ cs) := by
  rw [Bool.eq_iff_iff]
  simp only [List.any_eq_true, decide_eq_true_eq, valK, List.mem_map]
  exact ⟨fun ⟨x, ⟨d, hd, e⟩, h⟩ => by rw [← e] at h; rw [← cellK_inj h]; exact hd, fun h => ⟨_, ⟨c, h, rfl⟩, rfl⟩⟩
theorem put_new {f : Cl → SV} {c : Cl} {cs : List Cl} {v : SV} (h : c ∉ cs) (hv : f c = v) : putS (valK f cs) (cellK c) v = valK f (cs ++ [c]) := by
  unfold putS
  rw [val_any, decide_eq_false h]
  simp [valK, hv]
theorem put_old {f : Cl → SV} {c : Cl} {cs : List Cl} {v : SV} (h : c ∈ cs) : putS (valK f cs) (cellK c) v = valK (fun d => if d = c then v else f d) cs := by
  unfold putS
  rw [val_any, decide_eq_true h, if_pos rfl]
  unfold valK
  rw [List.map_map]
  refine List.map_congr_left fun d _ => ?_
  show (if cellK d = cellK c then (cellK d, v) else (cellK d, f d)) = (cellK d, if d = c then v else f d)
  by_cases e : d = c
  · rw [if_pos (by rw [e]), if_pos e]
  · rw [if_neg (fun z => e (cellK_inj z)), if_neg e]
theorem val_keys (f : Cl → SV) (cs : List Cl) : (valK f cs).map (·.1.data) = cs.map cD := by
  unfold valK
  rw [List.map_map]
  rfl
theorem val_len (f : Cl → SV) (cs : List Cl) : (valK f cs).length = cs.length := List.length_map _
theorem merge_val {f : Cl → SV} : ∀ {ds cs : List Cl}, (cs ++ ds).Nodup → mergeN (valK f cs) (valK f ds) = valK f (cs ++ ds)
  | [], cs, _ => by rw [List.append_nil]; rfl
  | d :: ds, cs, h => by
    have hd : d ∉ cs := fun hc => by
      rw [List.nodup_append] at h
      exact h.2.2 d hc d List.mem_cons_self rfl
    show mergeN (putS (valK f cs) (cellK d) (f d)) (valK f ds) = _
    rw [put_new hd rfl, merge_val (by rw [List.append_assoc]; exact h), List.append_assoc]
    rfl
/-! ### pieces -/
def nextTo (c : Cl) : List Cl := [(c.1 - 1, c.2), (c.1 + 1, c.2), (c.1, c.2 - 1), (c.1, c.2 + 1)]
theorem next_symm {a b : Cl} (h : b ∈ nextTo a) : a ∈ nextTo b := by
  obtain ⟨a1, a2⟩ := a
  obtain ⟨b1, b2⟩ := b
  simp only [nextTo, List.mem_cons, Prod.mk.injEq, List.not_mem_nil, or_false] at h ⊢
  omega
inductive Reach (cs : List Cl) (a : Cl) : Cl → Prop
  | here : a ∈ cs → Reach cs a a
  | step {b c : Cl} : Reach cs a b → c ∈ nextTo b → c ∈ cs → Reach cs a c
theorem Reach.mem {cs : List Cl} {a b : Cl} (h : Reach cs a b) : b ∈ cs := by cases h <;> assumption
theorem Reach.first {cs : List Cl} {a b : Cl} (h : Reach cs a b) : a ∈ cs := by
  induction h with
  | here h => exact h
  | step _ _ _ ih => exact ih
theorem Reach.trans {cs : List Cl} {a b c : Cl} (h : Reach cs a b) (h2 : Reach cs b c) : Reach cs a c := by
  induction h2 with
  | here _ => exact h
  | step _ h3 h4 ih => exact .step ih h3 h4
theorem Reach.symm {cs : List Cl} {a b : Cl} (h : Reach cs a b) : Reach cs b a := by
  induction h with
  | here h => exact .here h
  | step h1 h2 h3 ih => exact (Reach.step (.here h3) (next_symm h2) h1.mem).trans ih
noncomputable def reachB (cs : List Cl) (a b : Cl) : Bool := @decide (Reach cs a b) (Classical.propDecidable _)
theorem reachB_iff {cs : List Cl} {a b : Cl} : reachB cs a b = true ↔ Reach cs a b := @decide_eq_true_iff _ (Classical.propDecidable _)
noncomputable def comp (cs : List Cl) (a : Cl) : List Cl := cs.filter (reachB cs a)
theorem mem_comp {cs : List Cl} {a b : Cl} : b ∈ comp cs a ↔ Reach cs a b := by
  unfold comp
  rw [List.mem_filter, reachB_iff]
  exact ⟨fun h => h.2, fun h => ⟨h.mem, h⟩⟩
theorem comp_ris {cs : List Cl} (h : RisC cs) (a : Cl) : RisC (comp cs a) := h.filter _
theorem comp_eq {cs : List Cl} {a b : Cl} (h : Reach cs a b) : comp cs a = comp cs b := List.filter_congr fun c _ => by
  rw [Bool.eq_iff_iff, reachB_iff, reachB_iff]
  exact ⟨fun q => h.symm.trans q, fun q => h.trans q⟩
theorem comp_self {cs : List Cl} {a : Cl} (h : a ∈ cs) : a ∈ comp cs a := mem_comp.mpr (.here h)
theorem comp_of {cs : List Cl} {a b : Cl} (h : comp cs a = comp cs b) (hb : b ∈ cs) : Reach cs a b := mem_comp.mp (by rw [h]; exact comp_self hb)
/-- all pieces of cs, each once -/
structure PiecesOf (cs : List Cl) (ps : List (List Cl)) : Prop where
  nd : ps.Nodup
  is : ∀ p, p ∈ ps ↔ ∃ c ∈ cs, p = comp cs c
theorem PiecesOf.one {cs : List Cl} {ps qs : List (List Cl)} (h : PiecesOf cs ps) (h2 : PiecesOf cs qs) : dsort (ps.map ctD) = dsort (qs.map ctD) :=
  dsort_eq (((List.perm_ext_iff_of_nodup h.nd h2.nd).mpr fun p => (h.is p).trans (h2.is p).symm).map ctD) (pieces_alike ps) (cts_plain ps)
theorem PiecesOf.ne {cs : List Cl} {ps : List (List Cl)} (h : PiecesOf cs ps) : ∀ p ∈ ps, p ≠ [] := fun p hp e => by
  obtain ⟨c, hc, rfl⟩ := (h.is p).mp hp
  have := comp_self hc
  rw [e] at this
  cases this
/-! ### how a piece is found -/
def trueV : Cl → SV := fun _ => .dat (.bool true)
structure Found (cs : List Cl) (f : Cl) (fk ws : List Cl) : Prop where
  nd : fk.Nodup
  first : f ∈ fk
  reach : ∀ x ∈ fk, Reach cs f x
  sub : ∀ x ∈ ws, x ∈ fk
structure FInv (cs : List Cl) (f : Cl) (fk ws : List Cl) : Prop extends Found cs f fk ws where
  mb : 2 * (cs.length - fk.length) + ws.length ≤ 2 * cs.length + 1
  closed : ∀ x ∈ fk, x ∉ ws → ∀ d ∈ nextTo x, d ∈ cs → d ∈ fk
structure FMid (cs : List Cl) (f c : Cl) (M j : Nat) (fk ws : List Cl) : Prop extends Found cs f fk ws where
  here : c ∈ fk
  closed : ∀ x ∈ fk, x ∉ ws → x ≠ c → ∀ d ∈ nextTo x, d ∈ cs → d ∈ fk
  got : ∀ d ∈ (nextTo c).take j, d ∈ cs → d ∈ fk
  meas : 2 * (cs.length - fk.length) + ws.length ≤ M
theorem clen {xs ys : List Cl} (h : xs.Nodup) (hs : ∀ x ∈ xs, x ∈ ys) : xs.length ≤ ys.length := len_sub h hs
theorem FInv.start {cs : List Cl} {f : Cl} (h : f ∈ cs) : FInv cs f [f] [f] where
  nd := by simp
  first := List.mem_cons_self
  reach := fun x hx => by rw [List.mem_singleton.mp hx]; exact .here h
  sub := fun x hx => hx
  mb := by rw [List.length_singleton]; omega
  closed := fun x hx hn => absurd hx hn
theorem FInv.pop {cs : List Cl} {f c : Cl} {fk ws : List Cl} (h : FInv cs f fk (ws ++ [c])) : FMid cs f c (2 * (cs.length - fk.length) + ws.length) 0 fk ws where
  nd := h.nd
  first := h.first
  reach := h.reach
  sub := fun x hx => h.sub x (List.mem_append_left _ hx)
  here := h.sub c (List.mem_append_right _ List.mem_cons_self)
  closed := fun x hx hn hc => h.closed x hx fun hm => by
    rcases List.mem_append.mp hm with hm | hm
    · exact hn hm
    · exact hc (List.mem_singleton.mp hm)
  got := fun d hd => by simp at hd
  meas := Nat.le_refl _
theorem FMid.stay {cs : List Cl} {f c d : Cl} {M j : Nat} {fk ws : List Cl} (h : FMid cs f c M j fk ws) (hd : (nextTo c)[j]? = some d) (hn : d ∈ cs → d ∈ fk) : FMid cs f c M (j + 1) fk ws :=
  ⟨h.toFound, h.here, h.closed, fun x hx hc => by
    rw [List.take_succ, hd] at hx
    rcases List.mem_append.mp hx with hx | hx
    · exact h.got x hx hc
    · have e : x = d := by simpa using hx
      rw [e] at hc ⊢
      exact hn hc, h.meas⟩
theorem FMid.more {cs : List Cl} {f c d : Cl} {M j : Nat} {fk ws : List Cl} (h : FMid cs f c M j fk ws) (hd : (nextTo c)[j]? = some d) (hc : d ∈ cs) (hn : d ∉ fk) : FMid cs f c M (j + 1) (fk ++ [d]) (ws ++ [d]) := by
  have hr : Reach cs f d := .step (h.reach c h.here) (List.mem_of_getElem? hd) hc
  have hnd : (fk ++ [d]).Nodup := List.nodup_append.mpr ⟨h.nd, by simp, fun x hx y hy e => hn (by rw [List.mem_singleton] at hy; rw [← hy, ← e]; exact hx)⟩
  have hre : ∀ x ∈ fk ++ [d], Reach cs f x := fun x hx => by
    rcases List.mem_append.mp hx with hx | hx
    · exact h.reach x hx
    · rw [List.mem_singleton.mp hx]; exact hr
  have hlen := clen hnd fun x hx => (hre x hx).mem
  rw [List.length_append, List.length_singleton] at hlen
  refine ⟨⟨hnd, List.mem_append_left _ h.first, hre, fun x hx => ?_⟩, List.mem_append_left _ h.here, fun x hx hw hxc e he hec => ?_, fun x hx hxc => ?_, ?_⟩
  · rcases List.mem_append.mp hx with hx | hx
    · exact List.mem_append_left _ (h.sub x hx)
    · exact List.mem_append_right _ hx
  · rcases List.mem_append.mp hx with hx | hx
    · exact List.mem_append_left _ (h.closed x hx (fun q => hw (List.mem_append_left _ q)) hxc e he hec)
    · exact absurd (List.mem_append_right _ hx) hw
  · rw [List.take_succ, hd] at hx
    rcases List.mem_append.mp hx with hx | hx
    · exact List.mem_append_left _ (h.got x hx hxc)
    · exact List.mem_append_right _ (by simpa using hx)
  · have := h.meas
    rw [List.length_append, List.length_append, List.length_singleton]
    omega
theorem FInv.meas {cs : List Cl} {f : Cl} {fk ws : List Cl} (h : FInv cs f fk ws) (hl : cs.length ≤ 100) : 2 * (cs.length - fk.length) + ws.length ≤ 201 := by
  have := h.mb
  omega
theorem FMid.done {cs : List Cl} {f c : Cl} {M : Nat} {fk ws : List Cl} (h : FMid cs f c M 4 fk ws) (hM : M ≤ 2 * cs.length + 1) : FInv cs f fk ws where
  mb := Nat.le_trans h.meas hM
  nd := h.nd
  first := h.first
  reach := h.reach
  sub := h.sub
  closed := fun x hx hn => by
    by_cases e : x = c
    · rw [e]; exact h.got
    · exact h.closed x hx hn e
theorem FInv.all {cs : List Cl} {f : Cl} {fk : List Cl} (h : FInv cs f fk []) {x : Cl} (hx : Reach cs f x) : x ∈ fk := by
  induction hx with
  | here _ => exact h.first
  | step h1 h2 h3 ih => exact h.closed _ ih (by simp) _ h2 h3
theorem FInv.perm {cs : List Cl} {f : Cl} {fk : List Cl} (hr : RisC cs) (h : FInv cs f fk []) : fk.Perm (comp cs f) :=
  (List.perm_ext_iff_of_nodup h.nd (comp_ris hr f).nodup).mpr fun x => ⟨fun hx => mem_comp.mpr (h.reach x hx), fun hx => h.all (mem_comp.mp hx)⟩
theorem eqv_nilC (ws : List Cl) : PyData.eqv (.list (ws.map cD)) (.list []) = ws.isEmpty := by cases ws <;> rfl
/-! ### all pieces -/
structure PInv (cs : List Cl) (ps : List (List Cl)) (ls : List Cl) : Prop where
  nd : ps.Nodup
  is : ∀ p ∈ ps, ∃ c ∈ cs, p = comp cs c
  left : ∀ c, c ∈ ls ↔ c ∈ cs ∧ ∀ p ∈ ps, c ∉ p
  len : ps.length + ls.length ≤ cs.length
theorem PInv.start (cs : List Cl) : PInv cs [] cs := ⟨List.nodup_nil, (by simp), fun c => by simp, by simp⟩
theorem filter_lt {α : Type} {p : α → Bool} {x : α} {l : List α} (h : p x = false) : ((x :: l).filter p).length ≤ l.length := by
  rw [List.filter_cons, if_neg (by rw [h]; exact Bool.false_ne_true)]
  exact List.length_filter_le _ _
theorem PInv.step {cs : List Cl} {ps : List (List Cl)} {c : Cl} {ls : List Cl} (h : PInv cs ps (c :: ls)) : c ∈ cs ∧ PInv cs (ps ++ [comp cs c]) ((c :: ls).filter fun d => decide (d ∉ comp cs c)) ∧ ((c :: ls).filter fun d => decide (d ∉ comp cs c)).length ≤ ls.length := by
  have hc := (h.left c).mp List.mem_cons_self
  have hf : ((c :: ls).filter fun d => decide (d ∉ comp cs c)).length ≤ ls.length := filter_lt (decide_eq_false fun q => q (comp_self hc.1))
  refine ⟨hc.1, ⟨?_, fun p hp => ?_, fun d => ?_, ?_⟩, hf⟩
  · refine List.nodup_append.mpr ⟨h.nd, by simp, fun x hx y hy e => ?_⟩
    rw [List.mem_singleton] at hy
    refine hc.2 x hx ?_
    rw [e, hy]
    exact comp_self hc.1
  · rcases List.mem_append.mp hp with hp | hp
    · exact h.is p hp
    · exact ⟨c, hc.1, List.mem_singleton.mp hp⟩
  · rw [List.mem_filter, h.left d, decide_eq_true_eq]
    refine ⟨fun ⟨⟨q1, q2⟩, q3⟩ => ⟨q1, fun p hp => ?_⟩, fun ⟨q1, q2⟩ => ⟨⟨q1, fun p hp => q2 p (List.mem_append_left _ hp)⟩, q2 _ (List.mem_append_right _ List.mem_cons_self)⟩⟩
    rcases List.mem_append.mp hp with hp | hp
    · exact q2 p hp
    · rw [List.mem_singleton.mp hp]; exact q3
  · have := h.len
    rw [List.length_append, List.length_singleton]
    rw [List.length_cons] at this
    omega
theorem PInv.done {cs : List Cl} {ps : List (List Cl)} (h : PInv cs ps []) : PiecesOf cs ps := by
  refine ⟨h.nd, fun p => ⟨h.is p, fun ⟨c, hc, e⟩ => ?_⟩⟩
  have hn : ¬ (c ∈ cs ∧ ∀ p ∈ ps, c ∉ p) := fun q => by have := (h.left c).mpr q; simp at this
  have ⟨q, hq, hcq⟩ : ∃ q ∈ ps, c ∈ q := Classical.byContradiction fun z => hn ⟨hc, fun q hq hcq => z ⟨q, hq, hcq⟩⟩
  obtain ⟨d, hd, e2⟩ := h.is q hq
  rw [e2] at hcq
  rw [e, ← comp_eq (mem_comp.mp hcq), ← e2]
  exact hq

theorem sd_ext {a b c d a' b' c' d' : Int} (h1 : a = a') (h2 : b = b') (h3 : c = c') (h4 : d = d') : (((a, b), (c, d)) : Sd) = ((a', b'), (c', d')) := by rw [h1, h2, h3, h4]
/-- rings are sent on to rings: as they go, or the other way about -/
structure Sent (U V : List Cl) (M : Sd → Sd) (back : Bool) : Prop where
  inj : ∀ a b, M a = M b → a = b
  side : ∀ s, Side U s → Side V (M s)
  onto : ∀ t, Side V t → ∃ s, Side U s ∧ M s = t
  fwd : back = false → ∀ s, Side U s → nx V (M s) = M (nx U s)
  bwd : back = true → ∀ s, Side U s → nx V (M (nx U s)) = M s
theorem Sent.ring {U V : List Cl} {M : Sd → Sd} {b : Bool} (h : Sent U V M b) {r q : List Sd} (hr : Ring (nx U) r) (hs : ∀ x ∈ r, Side U x) (hq : Ring (nx V) q) (hqs : ∀ x ∈ q, Side V x) {x : Sd} (hx : x ∈ r) (hx2 : M x ∈ q) : ∀ y, y ∈ q ↔ ∃ z ∈ r, M z = y := by
  intro y
  constructor
  · intro hy
    obtain ⟨j, rfl⟩ := ring_reach hq hx2 hy
    clear hy
    induction j with
    | zero => exact ⟨x, hx, rfl⟩
    | succ j ih =>
      obtain ⟨z, hz, e⟩ := ih
      show ∃ z ∈ r, M z = nx V (pw (nx V) j (M x))
      rw [← e]
      cases b with
      | false => exact ⟨_, hr.next hz, (h.fwd rfl z (hs z hz)).symm⟩
      | true =>
        obtain ⟨z2, hz2, rfl⟩ := hr.prev hz
        exact ⟨z2, hz2, (h.bwd rfl z2 (hs z2 hz2)).symm⟩
  · rintro ⟨z, hz, rfl⟩
    obtain ⟨j, rfl⟩ := ring_reach hr hx hz
    clear hz
    induction j with
    | zero => exact hx2
    | succ j ih =>
      have hw := ring_pw hr hx j
      show M (nx U (pw (nx U) j x)) ∈ q
      cases b with
      | false =>
        rw [← h.fwd rfl _ (hs _ hw)]
        exact hq.next ih
      | true =>
        obtain ⟨y, hy, e⟩ := hq.prev ih
        have := nx_inj (hqs y hy) (h.side _ (nx_side (hs _ hw))) (e.trans (h.bwd rfl _ (hs _ hw)).symm)
        rw [← this]
        exact hy
theorem sorts_nd : ∀ {rs : List (List Sd)}, rs.flatten.Nodup → (∀ r ∈ rs, r ≠ []) → (rs.map sortS).Nodup
  | [], _, _ => List.nodup_nil
  | r :: rs, nd, hn => by
    rw [List.flatten_cons, List.nodup_append] at nd
    rw [List.map_cons, List.nodup_cons]
    refine ⟨fun z => ?_, sorts_nd nd.2.1 fun q hq => hn q (List.mem_cons_of_mem _ hq)⟩
    obtain ⟨q, hq, e⟩ := List.mem_map.mp z
    obtain ⟨x, l, er⟩ := List.exists_cons_of_ne_nil (hn r List.mem_cons_self)
    have hx : x ∈ r := by rw [er]; exact List.mem_cons_self
    have : x ∈ q := (sortS_perm q).mem_iff.mp (by rw [e]; exact (sortS_perm r).mem_iff.mpr hx)
    exact nd.2.2 x hx x (List.mem_flatten.mpr ⟨q, hq, this⟩) rfl
theorem nd_map {α β : Type} {f : α → β} (hf : ∀ a b, f a = f b → a = b) {l : List α} (h : l.Nodup) : (l.map f).Nodup := List.pairwise_map.mpr (h.imp fun {a b} q e => q (hf a b e))
theorem Rings.ne {cs : List Cl} {rs : List (List Sd)} (h : Rings cs rs) : ∀ r ∈ rs, r ≠ [] := fun r hr e => by
  have := (h.len r hr).2
  rw [e] at this
  simp at this
theorem Sent.all {U V : List Cl} {M : Sd → Sd} {b : Bool} (h : Sent U V M b) {ru rv : List (List Sd)} (hu : Rings U ru) (hv : Rings V rv) : (rv.map sortS).Perm (ru.map fun r => sortS (r.map M)) := by
  have e : (ru.map fun r => sortS (r.map M)) = (ru.map (List.map M)).map sortS := by rw [List.map_map]; rfl
  have one : ∀ r ∈ ru, ∀ q ∈ rv, ∀ x ∈ r, M x ∈ q → sortS q = sortS (r.map M) := fun r hr q hq x hx hx2 => by
    refine sortS_eq ((List.perm_ext_iff_of_nodup (hv.out.rings q hq).nd (nd_map h.inj (hu.out.rings r hr).nd)).mpr fun y => ?_)
    rw [h.ring (hu.out.rings r hr) (fun x hx => S_mem.mp (hu.side r hr x hx)) (hv.out.rings q hq) (fun x hx => S_mem.mp (hv.side q hq x hx)) hx hx2 y, List.mem_map]
  refine (List.perm_ext_iff_of_nodup (sorts_nd hv.out.nodup hv.ne) ?_).mpr fun c => ?_
  · rw [e]
    refine sorts_nd ?_ fun r hr z => ?_
    · rw [← List.map_flatten]
      exact nd_map h.inj hu.out.nodup
    · obtain ⟨q, hq, rfl⟩ := List.mem_map.mp hr
      exact hu.ne q hq (List.map_eq_nil_iff.mp z)
  · rw [List.mem_map, List.mem_map]
    constructor
    · rintro ⟨q, hq, rfl⟩
      obtain ⟨y, l, eq⟩ := List.exists_cons_of_ne_nil (hv.ne q hq)
      have hy : y ∈ q := by rw [eq]; exact List.mem_cons_self
      obtain ⟨s, hs, rfl⟩ := h.onto y (S_mem.mp (hv.side q hq y hy))
      obtain ⟨r, hr, hsr⟩ := List.mem_flatten.mp ((hu.all s).mpr (S_mem.mpr hs))
      exact ⟨r, hr, (one r hr q hq s hsr hy).symm⟩
    · rintro ⟨r, hr, rfl⟩
      obtain ⟨x, l, er⟩ := List.exists_cons_of_ne_nil (hu.ne r hr)
      have hx : x ∈ r := by rw [er]; exact List.mem_cons_self
      obtain ⟨q, hq, hxq⟩ := List.mem_flatten.mp ((hv.all (M x)).mpr (S_mem.mpr (h.side x (S_mem.mp (hu.side r hr x hx)))))
      exact ⟨q, hq, one r hr q hq x hx hxq⟩
def mv0 (m n : Int) (s : Sd) : Sd := ((s.1.1 + m, s.1.2 + n), (s.2.1 + m, s.2.2 + n))
theorem mv0_is (m n a b c d : Int) : mv0 m n ((a, b), (c, d)) = ((a + m, b + n), (c + m, d + n)) := rfl
theorem mv0_side {U V : List Cl} {m n : Int} (hV : ∀ x y u v : Int, u = x - m → v = y - n → ((x, y) ∈ V ↔ (u, v) ∈ U)) {s : Sd} (h : Side U s) : Side V (mv0 m n s) := by
  cases h with
  | east i j h1 h2 =>
    have e : mv0 m n ((i, j), (i + 1, j)) = ((i + m, j + n), (i + m + 1, j + n)) := by rw [mv0_is] <;> exact sd_ext (by omega) (by omega) (by omega) (by omega)
    rw [e]
    exact .east _ _ ((hV ((i + m)) ((j + n)) (i) (j) (by omega) (by omega)).mpr h1) fun z => h2 ((hV ((i + m)) ((j + n) - 1) (i) (j - 1) (by omega) (by omega)).mp z)
  | north i j h1 h2 =>
    have e : mv0 m n ((i, j), (i, j + 1)) = ((i + m, j + n), (i + m, j + n + 1)) := by rw [mv0_is] <;> exact sd_ext (by omega) (by omega) (by omega) (by omega)
    rw [e]
    exact .north _ _ ((hV ((i + m) - 1) ((j + n)) (i - 1) (j) (by omega) (by omega)).mpr h1) fun z => h2 ((hV ((i + m)) ((j + n)) (i) (j) (by omega) (by omega)).mp z)
  | west i j h1 h2 =>
    have e : mv0 m n ((i, j), (i - 1, j)) = ((i + m, j + n), (i + m - 1, j + n)) := by rw [mv0_is] <;> exact sd_ext (by omega) (by omega) (by omega) (by omega)
    rw [e]
    exact .west _ _ ((hV ((i + m) - 1) ((j + n) - 1) (i - 1) (j - 1) (by omega) (by omega)).mpr h1) fun z => h2 ((hV ((i + m) - 1) ((j + n)) (i - 1) (j) (by omega) (by omega)).mp z)
  | south i j h1 h2 =>
    have e : mv0 m n ((i, j), (i, j - 1)) = ((i + m, j + n), (i + m, j + n - 1)) := by rw [mv0_is] <;> exact sd_ext (by omega) (by omega) (by omega) (by omega)
    rw [e]
    exact .south _ _ ((hV ((i + m)) ((j + n) - 1) (i) (j - 1) (by omega) (by omega)).mpr h1) fun z => h2 ((hV ((i + m) - 1) ((j + n) - 1) (i - 1) (j - 1) (by omega) (by omega)).mp z)
theorem mv0_on {U V : List Cl} {m n : Int} (hV : ∀ x y u v : Int, u = x - m → v = y - n → ((x, y) ∈ V ↔ (u, v) ∈ U)) {s : Sd} (h : Side U s) : nx V (mv0 m n s) = mv0 m n (nx U s) := by
  cases h with
  | east i j h1 h2 =>
    have e : mv0 m n ((i, j), (i + 1, j)) = ((i + m, j + n), (i + m + 1, j + n)) := by rw [mv0_is] <;> exact sd_ext (by omega) (by omega) (by omega) (by omega)
    have ea := hV ((i + m) + 1) ((j + n)) (i + 1) (j) (by omega) (by omega)
    have eb := hV ((i + m) + 1) ((j + n) - 1) (i + 1) (j - 1) (by omega) (by omega)
    rw [e, nx_east, nx_east]
    by_cases a : (i + 1, j) ∈ U <;> by_cases b : (i + 1, j - 1) ∈ U <;> simp only [ea, eb, a, b, not_true_eq_false, not_false_eq_true, if_true, if_false, mv0_is] <;> exact sd_ext (by omega) (by omega) (by omega) (by omega)
  | north i j h1 h2 =>
    have e : mv0 m n ((i, j), (i, j + 1)) = ((i + m, j + n), (i + m, j + n + 1)) := by rw [mv0_is] <;> exact sd_ext (by omega) (by omega) (by omega) (by omega)
    have ea := hV ((i + m) - 1) ((j + n) + 1) (i - 1) (j + 1) (by omega) (by omega)
    have eb := hV ((i + m)) ((j + n) + 1) (i) (j + 1) (by omega) (by omega)
    rw [e, nx_north, nx_north]
    by_cases a : (i - 1, j + 1) ∈ U <;> by_cases b : (i, j + 1) ∈ U <;> simp only [ea, eb, a, b, not_true_eq_false, not_false_eq_true, if_true, if_false, mv0_is] <;> exact sd_ext (by omega) (by omega) (by omega) (by omega)
  | west i j h1 h2 =>
    have e : mv0 m n ((i, j), (i - 1, j)) = ((i + m, j + n), (i + m - 1, j + n)) := by rw [mv0_is] <;> exact sd_ext (by omega) (by omega) (by omega) (by omega)
    have ea := hV ((i + m) - 1 - 1) ((j + n) - 1) (i - 1 - 1) (j - 1) (by omega) (by omega)
    have eb := hV ((i + m) - 1 - 1) ((j + n)) (i - 1 - 1) (j) (by omega) (by omega)
    rw [e, nx_west, nx_west]
    by_cases a : (i - 1 - 1, j - 1) ∈ U <;> by_cases b : (i - 1 - 1, j) ∈ U <;> simp only [ea, eb, a, b, not_true_eq_false, not_false_eq_true, if_true, if_false, mv0_is] <;> exact sd_ext (by omega) (by omega) (by omega) (by omega)
  | south i j h1 h2 =>
    have e : mv0 m n ((i, j), (i, j - 1)) = ((i + m, j + n), (i + m, j + n - 1)) := by rw [mv0_is] <;> exact sd_ext (by omega) (by omega) (by omega) (by omega)
    have ea := hV ((i + m)) ((j + n) - 1 - 1) (i) (j - 1 - 1) (by omega) (by omega)
    have eb := hV ((i + m) - 1) ((j + n) - 1 - 1) (i - 1) (j - 1 - 1) (by omega) (by omega)
    rw [e, nx_south, nx_south]
    by_cases a : (i, j - 1 - 1) ∈ U <;> by_cases b : (i - 1, j - 1 - 1) ∈ U <;> simp only [ea, eb, a, b, not_true_eq_false, not_false_eq_true, if_true, if_false, mv0_is] <;> exact sd_ext (by omega) (by omega) (by omega) (by omega)
def mv1 (n : Int) (s : Sd) : Sd := ((n - s.1.2, s.1.1), (n - s.2.2, s.2.1))
theorem mv1_is (n a b c d : Int) : mv1 n ((a, b), (c, d)) = ((n - b, a), (n - d, c)) := rfl
theorem mv1_side {U V : List Cl} {n : Int} (hV : ∀ x y u v : Int, u = y → v = n - 1 - x → ((x, y) ∈ V ↔ (u, v) ∈ U)) {s : Sd} (h : Side U s) : Side V (mv1 n s) := by
  cases h with
  | east i j h1 h2 =>
    have e : mv1 n ((i, j), (i + 1, j)) = ((n - j, i), (n - j, i + 1)) := by rw [mv1_is] <;> exact sd_ext (by omega) (by omega) (by omega) (by omega)
    rw [e]
    exact .north _ _ ((hV ((n - j) - 1) (i) (i) (j) (by omega) (by omega)).mpr h1) fun z => h2 ((hV ((n - j)) (i) (i) (j - 1) (by omega) (by omega)).mp z)
  | north i j h1 h2 =>
    have e : mv1 n ((i, j), (i, j + 1)) = ((n - j, i), (n - j - 1, i)) := by rw [mv1_is] <;> exact sd_ext (by omega) (by omega) (by omega) (by omega)
    rw [e]
    exact .west _ _ ((hV ((n - j) - 1) (i - 1) (i - 1) (j) (by omega) (by omega)).mpr h1) fun z => h2 ((hV ((n - j) - 1) (i) (i) (j) (by omega) (by omega)).mp z)
  | west i j h1 h2 =>
    have e : mv1 n ((i, j), (i - 1, j)) = ((n - j, i), (n - j, i - 1)) := by rw [mv1_is] <;> exact sd_ext (by omega) (by omega) (by omega) (by omega)
    rw [e]
    exact .south _ _ ((hV ((n - j)) (i - 1) (i - 1) (j - 1) (by omega) (by omega)).mpr h1) fun z => h2 ((hV ((n - j) - 1) (i - 1) (i - 1) (j) (by omega) (by omega)).mp z)
  | south i j h1 h2 =>
    have e : mv1 n ((i, j), (i, j - 1)) = ((n - j, i), (n - j + 1, i)) := by rw [mv1_is] <;> exact sd_ext (by omega) (by omega) (by omega) (by omega)
    rw [e]
    exact .east _ _ ((hV ((n - j)) (i) (i) (j - 1) (by omega) (by omega)).mpr h1) fun z => h2 ((hV ((n - j)) (i - 1) (i - 1) (j - 1) (by omega) (by omega)).mp z)
theorem mv1_on {U V : List Cl} {n : Int} (hV : ∀ x y u v : Int, u = y → v = n - 1 - x → ((x, y) ∈ V ↔ (u, v) ∈ U)) {s : Sd} (h : Side U s) : nx V (mv1 n s) = mv1 n (nx U s) := by
  cases h with
  | east i j h1 h2 =>
    have e : mv1 n ((i, j), (i + 1, j)) = ((n - j, i), (n - j, i + 1)) := by rw [mv1_is] <;> exact sd_ext (by omega) (by omega) (by omega) (by omega)
    have ea := hV ((n - j) - 1) (i + 1) (i + 1) (j) (by omega) (by omega)
    have eb := hV ((n - j)) (i + 1) (i + 1) (j - 1) (by omega) (by omega)
    rw [e, nx_north, nx_east]
    by_cases a : (i + 1, j) ∈ U <;> by_cases b : (i + 1, j - 1) ∈ U <;> simp only [ea, eb, a, b, not_true_eq_false, not_false_eq_true, if_true, if_false, mv1_is] <;> exact sd_ext (by omega) (by omega) (by omega) (by omega)
  | north i j h1 h2 =>
    have e : mv1 n ((i, j), (i, j + 1)) = ((n - j, i), (n - j - 1, i)) := by rw [mv1_is] <;> exact sd_ext (by omega) (by omega) (by omega) (by omega)
    have ea := hV ((n - j) - 1 - 1) (i - 1) (i - 1) (j + 1) (by omega) (by omega)
    have eb := hV ((n - j) - 1 - 1) (i) (i) (j + 1) (by omega) (by omega)
    rw [e, nx_west, nx_north]
    by_cases a : (i - 1, j + 1) ∈ U <;> by_cases b : (i, j + 1) ∈ U <;> simp only [ea, eb, a, b, not_true_eq_false, not_false_eq_true, if_true, if_false, mv1_is] <;> exact sd_ext (by omega) (by omega) (by omega) (by omega)
  | west i j h1 h2 =>
    have e : mv1 n ((i, j), (i - 1, j)) = ((n - j, i), (n - j, i - 1)) := by rw [mv1_is] <;> exact sd_ext (by omega) (by omega) (by omega) (by omega)
    have ea := hV ((n - j)) (i - 1 - 1) (i - 1 - 1) (j - 1) (by omega) (by omega)
    have eb := hV ((n - j) - 1) (i - 1 - 1) (i - 1 - 1) (j) (by omega) (by omega)
    rw [e, nx_south, nx_west]
    by_cases a : (i - 1 - 1, j - 1) ∈ U <;> by_cases b : (i - 1 - 1, j) ∈ U <;> simp only [ea, eb, a, b, not_true_eq_false, not_false_eq_true, if_true, if_false, mv1_is] <;> exact sd_ext (by omega) (by omega) (by omega) (by omega)
  | south i j h1 h2 =>
    have e : mv1 n ((i, j), (i, j - 1)) = ((n - j, i), (n - j + 1, i)) := by rw [mv1_is] <;> exact sd_ext (by omega) (by omega) (by omega) (by omega)
    have ea := hV ((n - j) + 1) (i) (i) (j - 1 - 1) (by omega) (by omega)
    have eb := hV ((n - j) + 1) (i - 1) (i - 1) (j - 1 - 1) (by omega) (by omega)
    rw [e, nx_east, nx_south]
    by_cases a : (i, j - 1 - 1) ∈ U <;> by_cases b : (i - 1, j - 1 - 1) ∈ U <;> simp only [ea, eb, a, b, not_true_eq_false, not_false_eq_true, if_true, if_false, mv1_is] <;> exact sd_ext (by omega) (by omega) (by omega) (by omega)
def mv2 (m : Int) (s : Sd) : Sd := ((m - s.2.1, s.2.2), (m - s.1.1, s.1.2))
theorem mv2_is (m a b c d : Int) : mv2 m ((a, b), (c, d)) = ((m - c, d), (m - a, b)) := rfl
theorem mv2_side {U V : List Cl} {m : Int} (hV : ∀ x y u v : Int, u = m - 1 - x → v = y → ((x, y) ∈ V ↔ (u, v) ∈ U)) {s : Sd} (h : Side U s) : Side V (mv2 m s) := by
  cases h with
  | east i j h1 h2 =>
    have e : mv2 m ((i, j), (i + 1, j)) = ((m - (i + 1), j), (m - (i + 1) + 1, j)) := by rw [mv2_is] <;> exact sd_ext (by omega) (by omega) (by omega) (by omega)
    rw [e]
    exact .east _ _ ((hV ((m - (i + 1))) (j) (i) (j) (by omega) (by omega)).mpr h1) fun z => h2 ((hV ((m - (i + 1))) (j - 1) (i) (j - 1) (by omega) (by omega)).mp z)
  | north i j h1 h2 =>
    have e : mv2 m ((i, j), (i, j + 1)) = ((m - i, j + 1), (m - i, j + 1 - 1)) := by rw [mv2_is] <;> exact sd_ext (by omega) (by omega) (by omega) (by omega)
    rw [e]
    exact .south _ _ ((hV ((m - i)) ((j + 1) - 1) (i - 1) (j) (by omega) (by omega)).mpr h1) fun z => h2 ((hV ((m - i) - 1) ((j + 1) - 1) (i) (j) (by omega) (by omega)).mp z)
  | west i j h1 h2 =>
    have e : mv2 m ((i, j), (i - 1, j)) = ((m - (i - 1), j), (m - (i - 1) - 1, j)) := by rw [mv2_is] <;> exact sd_ext (by omega) (by omega) (by omega) (by omega)
    rw [e]
    exact .west _ _ ((hV ((m - (i - 1)) - 1) (j - 1) (i - 1) (j - 1) (by omega) (by omega)).mpr h1) fun z => h2 ((hV ((m - (i - 1)) - 1) (j) (i - 1) (j) (by omega) (by omega)).mp z)
  | south i j h1 h2 =>
    have e : mv2 m ((i, j), (i, j - 1)) = ((m - i, j - 1), (m - i, j - 1 + 1)) := by rw [mv2_is] <;> exact sd_ext (by omega) (by omega) (by omega) (by omega)
    rw [e]
    exact .north _ _ ((hV ((m - i) - 1) ((j - 1)) (i) (j - 1) (by omega) (by omega)).mpr h1) fun z => h2 ((hV ((m - i)) ((j - 1)) (i - 1) (j - 1) (by omega) (by omega)).mp z)
theorem mv2_on {U V : List Cl} {m : Int} (hV : ∀ x y u v : Int, u = m - 1 - x → v = y → ((x, y) ∈ V ↔ (u, v) ∈ U)) {s : Sd} (h : Side U s) : nx V (mv2 m (nx U s)) = mv2 m s := by
  have no : ∀ {c : Cl}, c ∈ U → ¬ c ∉ U := fun h z => z h
  cases h with
  | east i j h1 h2 =>
    rw [nx_east]
    by_cases a : (i + 1, j) ∈ U
    · rw [if_neg (no a)]
      by_cases b : (i + 1, j - 1) ∈ U
      · rw [if_neg (no b)]
        have e : mv2 m ((i + 1, j), (i + 1, j - 1)) = (((m - (i + 1)), (j - 1)), ((m - (i + 1)), (j - 1) + 1)) := by rw [mv2_is] <;> exact sd_ext (by omega) (by omega) (by omega) (by omega)
        have f0 := hV ((m - (i + 1)) - 1) ((j - 1) + 1) (i + 1) (j) (by omega) (by omega)
        have f1 := hV ((m - (i + 1))) ((j - 1) + 1) (i) (j) (by omega) (by omega)
        rw [e, nx_north]
        simp only [f0, f1, h1, h2, a, b, not_true_eq_false, not_false_eq_true, if_true, if_false, mv2_is]
        exact sd_ext (by omega) (by omega) (by omega) (by omega)
      · rw [if_pos b]
        have e : mv2 m ((i + 1, j), (i + 1 + 1, j)) = (((m - ((i + 1) + 1)), j), ((m - ((i + 1) + 1)) + 1, j)) := by rw [mv2_is] <;> exact sd_ext (by omega) (by omega) (by omega) (by omega)
        have f0 := hV ((m - ((i + 1) + 1)) + 1) (j) (i) (j) (by omega) (by omega)
        have f1 := hV ((m - ((i + 1) + 1)) + 1) (j - 1) (i) (j - 1) (by omega) (by omega)
        rw [e, nx_east]
        simp only [f0, f1, h1, h2, a, b, not_true_eq_false, not_false_eq_true, if_true, if_false, mv2_is]
        exact sd_ext (by omega) (by omega) (by omega) (by omega)
    · rw [if_pos a]
      have e : mv2 m ((i + 1, j), (i + 1, j + 1)) = (((m - (i + 1)), (j + 1)), ((m - (i + 1)), (j + 1) - 1)) := by rw [mv2_is] <;> exact sd_ext (by omega) (by omega) (by omega) (by omega)
      have f0 := hV ((m - (i + 1))) ((j + 1) - 1 - 1) (i) (j - 1) (by omega) (by omega)
      have f1 := hV ((m - (i + 1)) - 1) ((j + 1) - 1 - 1) (i + 1) (j - 1) (by omega) (by omega)
      rw [e, nx_south]
      simp only [f0, f1, h1, h2, a, not_true_eq_false, not_false_eq_true, if_true, if_false, mv2_is]
      exact sd_ext (by omega) (by omega) (by omega) (by omega)
  | north i j h1 h2 =>
    rw [nx_north]
    by_cases a : (i - 1, j + 1) ∈ U
    · rw [if_neg (no a)]
      by_cases b : (i, j + 1) ∈ U
      · rw [if_neg (no b)]
        have e : mv2 m ((i, j + 1), (i + 1, j + 1)) = (((m - (i + 1)), ((j + 1))), ((m - (i + 1)) + 1, ((j + 1)))) := by rw [mv2_is] <;> exact sd_ext (by omega) (by omega) (by omega) (by omega)
        have f0 := hV ((m - (i + 1)) + 1) (((j + 1))) (i - 1) (j + 1) (by omega) (by omega)
        have f1 := hV ((m - (i + 1)) + 1) (((j + 1)) - 1) (i - 1) (j) (by omega) (by omega)
        rw [e, nx_east]
        simp only [f0, f1, h1, h2, a, b, not_true_eq_false, not_false_eq_true, if_true, if_false, mv2_is]
        exact sd_ext (by omega) (by omega) (by omega) (by omega)
      · rw [if_pos b]
        have e : mv2 m ((i, j + 1), (i, j + 1 + 1)) = (((m - i), ((j + 1) + 1)), ((m - i), ((j + 1) + 1) - 1)) := by rw [mv2_is] <;> exact sd_ext (by omega) (by omega) (by omega) (by omega)
        have f0 := hV ((m - i)) (((j + 1) + 1) - 1 - 1) (i - 1) (j) (by omega) (by omega)
        have f1 := hV ((m - i) - 1) (((j + 1) + 1) - 1 - 1) (i) (j) (by omega) (by omega)
        rw [e, nx_south]
        simp only [f0, f1, h1, h2, a, b, not_true_eq_false, not_false_eq_true, if_true, if_false, mv2_is]
        exact sd_ext (by omega) (by omega) (by omega) (by omega)
    · rw [if_pos a]
      have e : mv2 m ((i, j + 1), (i - 1, j + 1)) = (((m - (i - 1)), ((j + 1))), ((m - (i - 1)) - 1, ((j + 1)))) := by rw [mv2_is] <;> exact sd_ext (by omega) (by omega) (by omega) (by omega)
      have f0 := hV ((m - (i - 1)) - 1 - 1) (((j + 1)) - 1) (i) (j) (by omega) (by omega)
      have f1 := hV ((m - (i - 1)) - 1 - 1) (((j + 1))) (i) (j + 1) (by omega) (by omega)
      rw [e, nx_west]
      simp only [f0, f1, h1, h2, a, not_true_eq_false, not_false_eq_true, if_true, if_false, mv2_is]
      exact sd_ext (by omega) (by omega) (by omega) (by omega)
  | west i j h1 h2 =>
    rw [nx_west]
    by_cases a : (i - 1 - 1, j - 1) ∈ U
    · rw [if_neg (no a)]
      by_cases b : (i - 1 - 1, j) ∈ U
      · rw [if_neg (no b)]
        have e : mv2 m ((i - 1, j), (i - 1, j + 1)) = (((m - (i - 1)), (j + 1)), ((m - (i - 1)), (j + 1) - 1)) := by rw [mv2_is] <;> exact sd_ext (by omega) (by omega) (by omega) (by omega)
        have f0 := hV ((m - (i - 1))) ((j + 1) - 1 - 1) (i - 1 - 1) (j - 1) (by omega) (by omega)
        have f1 := hV ((m - (i - 1)) - 1) ((j + 1) - 1 - 1) (i - 1) (j - 1) (by omega) (by omega)
        rw [e, nx_south]
        simp only [f0, f1, h1, h2, a, b, not_true_eq_false, not_false_eq_true, if_true, if_false, mv2_is]
        exact sd_ext (by omega) (by omega) (by omega) (by omega)
      · rw [if_pos b]
        have e : mv2 m ((i - 1, j), (i - 1 - 1, j)) = (((m - ((i - 1) - 1)), j), ((m - ((i - 1) - 1)) - 1, j)) := by rw [mv2_is] <;> exact sd_ext (by omega) (by omega) (by omega) (by omega)
        have f0 := hV ((m - ((i - 1) - 1)) - 1 - 1) (j - 1) (i - 1) (j - 1) (by omega) (by omega)
        have f1 := hV ((m - ((i - 1) - 1)) - 1 - 1) (j) (i - 1) (j) (by omega) (by omega)
        rw [e, nx_west]
        simp only [f0, f1, h1, h2, a, b, not_true_eq_false, not_false_eq_true, if_true, if_false, mv2_is]
        exact sd_ext (by omega) (by omega) (by omega) (by omega)
    · rw [if_pos a]
      have e : mv2 m ((i - 1, j), (i - 1, j - 1)) = (((m - (i - 1)), (j - 1)), ((m - (i - 1)), (j - 1) + 1)) := by rw [mv2_is] <;> exact sd_ext (by omega) (by omega) (by omega) (by omega)
      have f0 := hV ((m - (i - 1)) - 1) ((j - 1) + 1) (i - 1) (j) (by omega) (by omega)
      have f1 := hV ((m - (i - 1))) ((j - 1) + 1) (i - 1 - 1) (j) (by omega) (by omega)
      rw [e, nx_north]
      simp only [f0, f1, h1, h2, a, not_true_eq_false, not_false_eq_true, if_true, if_false, mv2_is]
      exact sd_ext (by omega) (by omega) (by omega) (by omega)
  | south i j h1 h2 =>
    rw [nx_south]
    by_cases a : (i, j - 1 - 1) ∈ U
    · rw [if_neg (no a)]
      by_cases b : (i - 1, j - 1 - 1) ∈ U
      · rw [if_neg (no b)]
        have e : mv2 m ((i, j - 1), (i - 1, j - 1)) = (((m - (i - 1)), ((j - 1))), ((m - (i - 1)) - 1, ((j - 1)))) := by rw [mv2_is] <;> exact sd_ext (by omega) (by omega) (by omega) (by omega)
        have f0 := hV ((m - (i - 1)) - 1 - 1) (((j - 1)) - 1) (i) (j - 1 - 1) (by omega) (by omega)
        have f1 := hV ((m - (i - 1)) - 1 - 1) (((j - 1))) (i) (j - 1) (by omega) (by omega)
        rw [e, nx_west]
        simp only [f0, f1, h1, h2, a, b, not_true_eq_false, not_false_eq_true, if_true, if_false, mv2_is]
        exact sd_ext (by omega) (by omega) (by omega) (by omega)
      · rw [if_pos b]
        have e : mv2 m ((i, j - 1), (i, j - 1 - 1)) = (((m - i), ((j - 1) - 1)), ((m - i), ((j - 1) - 1) + 1)) := by rw [mv2_is] <;> exact sd_ext (by omega) (by omega) (by omega) (by omega)
        have f0 := hV ((m - i) - 1) (((j - 1) - 1) + 1) (i) (j - 1) (by omega) (by omega)
        have f1 := hV ((m - i)) (((j - 1) - 1) + 1) (i - 1) (j - 1) (by omega) (by omega)
        rw [e, nx_north]
        simp only [f0, f1, h1, h2, a, b, not_true_eq_false, not_false_eq_true, if_true, if_false, mv2_is]
        exact sd_ext (by omega) (by omega) (by omega) (by omega)
    · rw [if_pos a]
      have e : mv2 m ((i, j - 1), (i + 1, j - 1)) = (((m - (i + 1)), ((j - 1))), ((m - (i + 1)) + 1, ((j - 1)))) := by rw [mv2_is] <;> exact sd_ext (by omega) (by omega) (by omega) (by omega)
      have f0 := hV ((m - (i + 1)) + 1) (((j - 1))) (i - 1) (j - 1) (by omega) (by omega)
      have f1 := hV ((m - (i + 1)) + 1) (((j - 1)) - 1) (i - 1) (j - 1 - 1) (by omega) (by omega)
      rw [e, nx_east]
      simp only [f0, f1, h1, h2, a, not_true_eq_false, not_false_eq_true, if_true, if_false, mv2_is]
      exact sd_ext (by omega) (by omega) (by omega) (by omega)
def mv3 (n : Int) (s : Sd) : Sd := ((s.1.2, n - s.1.1), (s.2.2, n - s.2.1))
theorem mv3_is (n a b c d : Int) : mv3 n ((a, b), (c, d)) = ((b, n - a), (d, n - c)) := rfl
theorem mv3_side {U V : List Cl} {n : Int} (hV : ∀ x y u v : Int, u = n - 1 - y → v = x → ((x, y) ∈ V ↔ (u, v) ∈ U)) {s : Sd} (h : Side U s) : Side V (mv3 n s) := by
  cases h with
  | east i j h1 h2 =>
    have e : mv3 n ((i, j), (i + 1, j)) = ((j, n - i), (j, n - i - 1)) := by rw [mv3_is] <;> exact sd_ext (by omega) (by omega) (by omega) (by omega)
    rw [e]
    exact .south _ _ ((hV (j) ((n - i) - 1) (i) (j) (by omega) (by omega)).mpr h1) fun z => h2 ((hV (j - 1) ((n - i) - 1) (i) (j - 1) (by omega) (by omega)).mp z)
  | north i j h1 h2 =>
    have e : mv3 n ((i, j), (i, j + 1)) = ((j, n - i), (j + 1, n - i)) := by rw [mv3_is] <;> exact sd_ext (by omega) (by omega) (by omega) (by omega)
    rw [e]
    exact .east _ _ ((hV (j) ((n - i)) (i - 1) (j) (by omega) (by omega)).mpr h1) fun z => h2 ((hV (j) ((n - i) - 1) (i) (j) (by omega) (by omega)).mp z)
  | west i j h1 h2 =>
    have e : mv3 n ((i, j), (i - 1, j)) = ((j, n - i), (j, n - i + 1)) := by rw [mv3_is] <;> exact sd_ext (by omega) (by omega) (by omega) (by omega)
    rw [e]
    exact .north _ _ ((hV (j - 1) ((n - i)) (i - 1) (j - 1) (by omega) (by omega)).mpr h1) fun z => h2 ((hV (j) ((n - i)) (i - 1) (j) (by omega) (by omega)).mp z)
  | south i j h1 h2 =>
    have e : mv3 n ((i, j), (i, j - 1)) = ((j, n - i), (j - 1, n - i)) := by rw [mv3_is] <;> exact sd_ext (by omega) (by omega) (by omega) (by omega)
    rw [e]
    exact .west _ _ ((hV (j - 1) ((n - i) - 1) (i) (j - 1) (by omega) (by omega)).mpr h1) fun z => h2 ((hV (j - 1) ((n - i)) (i - 1) (j - 1) (by omega) (by omega)).mp z)

theorem sent0 {U V : List Cl} {m n : Int} (hV : ∀ x y u v : Int, u = x - m → v = y - n → ((x, y) ∈ V ↔ (u, v) ∈ U)) : Sent U V (mv0 m n) false where
  inj := fun ⟨⟨a, b⟩, c, d⟩ ⟨⟨a', b'⟩, c', d'⟩ h => by
    rw [mv0_is, mv0_is] at h
    simp only [Prod.mk.injEq] at h
    exact sd_ext (by omega) (by omega) (by omega) (by omega)
  side := fun s h => mv0_side hV h
  onto := fun t h => ⟨mv0 (-m) (-n) t, mv0_side (U := V) (V := U) (fun x y u v h1 h2 => (hV u v x y (by omega) (by omega)).symm) h, by
    obtain ⟨⟨a, b⟩, c, d⟩ := t
    show (((a + -m + m, b + -n + n), (c + -m + m, d + -n + n)) : Sd) = _
    exact sd_ext (by omega) (by omega) (by omega) (by omega)⟩
  fwd := fun _ s h => mv0_on hV h
  bwd := fun e => by cases e
theorem sent1 {U V : List Cl} {n : Int} (hV : ∀ x y u v : Int, u = y → v = n - 1 - x → ((x, y) ∈ V ↔ (u, v) ∈ U)) : Sent U V (mv1 n) false where
  inj := fun ⟨⟨a, b⟩, c, d⟩ ⟨⟨a', b'⟩, c', d'⟩ h => by
    rw [mv1_is, mv1_is] at h
    simp only [Prod.mk.injEq] at h
    exact sd_ext (by omega) (by omega) (by omega) (by omega)
  side := fun s h => mv1_side hV h
  onto := fun t h => ⟨mv3 n t, mv3_side (U := V) (V := U) (fun x y u v h1 h2 => (hV u v x y (by omega) (by omega)).symm) h, by
    obtain ⟨⟨a, b⟩, c, d⟩ := t
    rw [mv3_is, mv1_is]
    exact sd_ext (by omega) (by omega) (by omega) (by omega)⟩
  fwd := fun _ s h => mv1_on hV h
  bwd := fun e => by cases e
theorem sent2 {U V : List Cl} {m : Int} (hV : ∀ x y u v : Int, u = m - 1 - x → v = y → ((x, y) ∈ V ↔ (u, v) ∈ U)) : Sent U V (mv2 m) true where
  inj := fun ⟨⟨a, b⟩, c, d⟩ ⟨⟨a', b'⟩, c', d'⟩ h => by
    rw [mv2_is, mv2_is] at h
    simp only [Prod.mk.injEq] at h
    exact sd_ext (by omega) (by omega) (by omega) (by omega)
  side := fun s h => mv2_side hV h
  onto := fun t h => ⟨mv2 m t, mv2_side (U := V) (V := U) (fun x y u v h1 h2 => (hV u v x y (by omega) (by omega)).symm) h, by
    obtain ⟨⟨a, b⟩, c, d⟩ := t
    show (((m - (m - a), b), (m - (m - c), d)) : Sd) = _
    exact sd_ext (by omega) (by omega) (by omega) (by omega)⟩
  fwd := fun e => by cases e
  bwd := fun _ s h => mv2_on hV h
/-! ### lists of rings as sides -/
abbrev slD (l : List Sd) : PyData := .list (l.map sD)
theorem sl_plain (l : List Sd) : plainD (slD l) = true := by simp only [plainD]; exact plainA_map sD_plain l
theorem alikeA_sides : ∀ p q : List Sd, PySem.W.alikeAll (p.map sD) (q.map sD) = true
  | [], _ => by simp [PySem.W.alikeAll]
  | _ :: _, [] => by simp [PySem.W.alikeAll]
  | a :: p, b :: q => by
    have := alikeA_sides p q
    simp only [List.map_cons, PySem.W.alikeAll, this, Bool.and_true]
    simp [sD, cD, PySem.W.alike, PySem.W.alikeAll]
theorem sls_alike (ps : List (List Sd)) : PySem.W.AllAlike (ps.map slD) := PySem.W.AllAlike.of fun p q => by
  simp only [slD, PySem.W.alike]
  exact alikeA_sides p q
theorem sls_sort (ps : List (List Sd)) : PySem.W.Sortable (ps.map slD) := .inr fun d hd => by
  obtain ⟨p, _, rfl⟩ := List.mem_map.mp hd
  exact ⟨fun z => PyData.noConfusion z, fun xs z => PyData.noConfusion z⟩
theorem sls_depth (ps : List (List Sd)) : ∀ d ∈ ps.map slD, d.depth ≤ 60 := fun d hd => by
  obtain ⟨p, _, rfl⟩ := List.mem_map.mp hd
  have := depthAll_map sD_depth p
  simp only [slD, PyData.depth]
  omega
theorem sls_plain (ps : List (List Sd)) : plainA (ps.map slD) = true := plainA_map sl_plain ps
noncomputable def slSort (ps : List (List Sd)) : List (List Sd) := ps.mergeSort fun a b => PySem.W.dataLe false id (slD a) (slD b)
theorem slSort_map (ps : List (List Sd)) : dsort (ps.map slD) = (slSort ps).map slD := by
  have : (slSort ps).map slD = (ps.map slD).mergeSort (PySem.W.dataLe false id) := List.map_mergeSort (f := slD) (r := fun a b => PySem.W.dataLe false id (slD a) (slD b)) (s := PySem.W.dataLe false id) fun a _ b _ => rfl
  exact this.symm
theorem sls_shaped (ps : List (List Sd)) : SeqAt.shaped (.list (ps.map slD)) = true := shaped_plain (by simp only [plainD]; exact sls_plain ps) (by
  have := depthAll_le (n := 3) (xs := ps.map slD) fun d hd => by
    obtain ⟨p, _, rfl⟩ := List.mem_map.mp hd
    have := depthAll_map sD_depth p
    simp only [slD, PyData.depth]
    omega
  simp only [PyData.depth]
  omega)
/-! ### pieces -/
theorem comp_mem {U : List Cl} {a b : Cl} (h : b ∈ comp U a) : b ∈ U := (mem_comp.mp h).mem
theorem comp_next {U : List Cl} {a b c : Cl} (h : b ∈ comp U a) (hn : c ∈ nextTo b) (hc : c ∈ U) : c ∈ comp U a := mem_comp.mpr (.step (mem_comp.mp h) hn hc)
theorem comp_iff {U : List Cl} {a b c : Cl} (h : b ∈ comp U a) (hn : c ∈ nextTo b) : c ∈ comp U a ↔ c ∈ U := ⟨comp_mem, comp_next h hn⟩
theorem near {a b x y : Int} (h : (x = a - 1 ∧ y = b) ∨ (x = a + 1 ∧ y = b) ∨ (x = a ∧ y = b - 1) ∨ (x = a ∧ y = b + 1)) : (x, y) ∈ nextTo (a, b) := by
  simp only [nextTo, List.mem_cons, Prod.mk.injEq, List.not_mem_nil, or_false]
  omega
theorem piece_up {U : List Cl} {a : Cl} {s : Sd} (h : Side (comp U a) s) : Side U s := by
  cases h with
  | east i j h1 h2 => exact .east i j (comp_mem h1) fun z => h2 (comp_next h1 (near (by omega)) z)
  | north i j h1 h2 => exact .north i j (comp_mem h1) fun z => h2 (comp_next h1 (near (by omega)) z)
  | west i j h1 h2 => exact .west i j (comp_mem h1) fun z => h2 (comp_next h1 (near (by omega)) z)
  | south i j h1 h2 => exact .south i j (comp_mem h1) fun z => h2 (comp_next h1 (near (by omega)) z)
theorem piece_down {U : List Cl} {s : Sd} (h : Side U s) : ∃ c ∈ U, Side (comp U c) s := by
  cases h with
  | east i j h1 h2 => exact ⟨_, h1, .east i j (comp_self h1) fun z => h2 (comp_mem z)⟩
  | north i j h1 h2 => exact ⟨_, h1, .north i j (comp_self h1) fun z => h2 (comp_mem z)⟩
  | west i j h1 h2 => exact ⟨_, h1, .west i j (comp_self h1) fun z => h2 (comp_mem z)⟩
  | south i j h1 h2 => exact ⟨_, h1, .south i j (comp_self h1) fun z => h2 (comp_mem z)⟩
theorem side_iff {cs : List Cl} {s : Sd} : Side cs s ↔ Unit1 s ∧ leftOf s ∈ cs ∧ rightOf s ∉ cs := by
  rw [← side_round, (pre_perm cs).mem_iff, lawpre_P, mem_sidesP, decide_eq_true_eq]
theorem piece_nx {U : List Cl} {a : Cl} {s : Sd} (h : Side (comp U a) s) : nx (comp U a) s = nx U s := by
  have no : ∀ {V : List Cl} {c : Cl}, c ∈ V → ¬ c ∉ V := fun h z => z h
  cases h with
  | east i j h1 h2 =>
    have ea := comp_iff (c := (i + 1, j)) h1 (near (by omega))
    rw [nx_east, nx_east]
    by_cases q : (i + 1, j) ∈ comp U a
    · have eb := comp_iff (c := (i + 1, j - 1)) q (near (by omega))
      rw [if_neg (no q), if_neg (no (ea.mp q))]
      simp only [eb]
    · rw [if_pos q, if_pos fun z => q (ea.mpr z)]
  | north i j h1 h2 =>
    have ea := comp_iff (c := (i - 1, j + 1)) h1 (near (by omega))
    rw [nx_north, nx_north]
    by_cases q : (i - 1, j + 1) ∈ comp U a
    · have eb := comp_iff (c := (i, j + 1)) q (near (by omega))
      rw [if_neg (no q), if_neg (no (ea.mp q))]
      simp only [eb]
    · rw [if_pos q, if_pos fun z => q (ea.mpr z)]
  | west i j h1 h2 =>
    have ea := comp_iff (c := (i - 1 - 1, j - 1)) h1 (near (by omega))
    rw [nx_west, nx_west]
    by_cases q : (i - 1 - 1, j - 1) ∈ comp U a
    · have eb := comp_iff (c := (i - 1 - 1, j)) q (near (by omega))
      rw [if_neg (no q), if_neg (no (ea.mp q))]
      simp only [eb]
    · rw [if_pos q, if_pos fun z => q (ea.mpr z)]
  | south i j h1 h2 =>
    have ea := comp_iff (c := (i, j - 1 - 1)) h1 (near (by omega))
    rw [nx_south, nx_south]
    by_cases q : (i, j - 1 - 1) ∈ comp U a
    · have eb := comp_iff (c := (i - 1, j - 1 - 1)) q (near (by omega))
      rw [if_neg (no q), if_neg (no (ea.mp q))]
      simp only [eb]
    · rw [if_pos q, if_pos fun z => q (ea.mpr z)]

theorem piece_two {U : List Cl} {a b : Cl} {s : Sd} (h1 : Side (comp U a) s) (h2 : Side (comp U b) s) : comp U a = comp U b := by
  have l1 := (side_iff.mp h1).2.1
  have l2 := (side_iff.mp h2).2.1
  rw [comp_eq (mem_comp.mp l1), comp_eq (mem_comp.mp l2)]
open Classical in
noncomputable def rOf (P : List Cl) : List (List Sd) := if h : ∃ rs, Rings P rs then h.choose else []
theorem rOf_spec {P : List Cl} {rs : List (List Sd)} (h : Rings P rs) : Rings P (rOf P) := by
  have q : ∃ rs, Rings P rs := ⟨rs, h⟩
  unfold rOf
  rw [dif_pos q]
  exact q.choose_spec
theorem rOf_is {P : List Cl} {rs : List (List Sd)} (h : Rings P rs) : rOf P = rs := Out.one (rOf_spec h).out h.out
theorem rings_pieces {U : List Cl} {ps qs : List (List Cl)} (hp : PiecesOf U ps) (hq : qs.Perm ps) {ru : List (List Sd)} (hu : Rings U ru) (hr : ∀ p ∈ qs, Rings p (rOf p)) : (ru.map tk).Perm (qs.flatMap fun p => (rOf p).map tk) := by
  have is : ∀ p ∈ qs, ∃ c ∈ U, p = comp U c := fun p h => (hp.is p).mp (hq.mem_iff.mp h)
  refine rings_parts hu (P := id) (R := rOf) hr ?_ (fun x => ?_) fun p h x hx => ?_
  · have nd : qs.Nodup := hq.nodup_iff.mpr hp.nd
    refine nd.imp_of_mem ?_
    intro p q h1 h2 hne x hx hx2
    obtain ⟨a, ha, rfl⟩ := is p h1
    obtain ⟨b, hb, rfl⟩ := is q h2
    exact hne (piece_two (S_mem.mp hx) (S_mem.mp hx2))
  · constructor
    · intro hx
      obtain ⟨c, hc, hs⟩ := piece_down (S_mem.mp hx)
      exact ⟨comp U c, hq.mem_iff.mpr ((hp.is _).mpr ⟨c, hc, rfl⟩), S_mem.mpr hs⟩
    · rintro ⟨p, h, hx⟩
      obtain ⟨a, ha, rfl⟩ := is p h
      exact S_mem.mpr (piece_up (S_mem.mp hx))
  · obtain ⟨a, ha, rfl⟩ := is p h
    exact piece_nx (S_mem.mp hx)
noncomputable def csSort (ps : List (List Cl)) : List (List Cl) := ps.mergeSort fun a b => PySem.W.dataLe false id (ctD a) (ctD b)
theorem csSort_map (ps : List (List Cl)) : dsort (ps.map ctD) = (csSort ps).map ctD := by
  have : (csSort ps).map ctD = (ps.map ctD).mergeSort (PySem.W.dataLe false id) := List.map_mergeSort (f := ctD) (r := fun a b => PySem.W.dataLe false id (ctD a) (ctD b)) (s := PySem.W.dataLe false id) fun a _ b _ => rfl
  exact this.symm
theorem csSort_perm (ps : List (List Cl)) : (csSort ps).Perm ps := List.mergeSort_perm _ _
/-! ### sides of two parts -/
theorem parts_sides {U P Q : List Cl} (hU : U.Nodup) (hp : (P ++ Q).Perm U) : (Sds U ++ ((Sds P).filter fun s => decide (rightOf s ∈ Q)) ++ ((Sds Q).filter fun s => decide (rightOf s ∈ P))).Perm (Sds P ++ Sds Q) := by
  have nd := hp.nodup_iff.mpr hU
  have hm : ∀ c, c ∈ U ↔ c ∈ P ∨ c ∈ Q := fun c => by rw [← hp.mem_iff, List.mem_append]
  rw [List.nodup_append] at nd
  obtain ⟨n1, n2, n3⟩ := nd
  have dis : ∀ c, c ∈ P → c ∈ Q → False := fun c h1 h2 => n3 c h1 c h2 rfl
  refine (List.perm_ext_iff_of_nodup ?_ ?_).mpr fun s => ?_
  · refine List.nodup_append.mpr ⟨List.nodup_append.mpr ⟨S_nodup hU, (S_nodup n1).filter _, ?_⟩, (S_nodup n2).filter _, ?_⟩
    · rintro s hs t ht rfl
      have h1 := side_iff.mp (S_mem.mp hs)
      exact h1.2.2 ((hm _).mpr (.inr (of_decide_eq_true (List.mem_filter.mp ht).2)))
    · rintro s hs t ht rfl
      have h2 := side_iff.mp (S_mem.mp (List.mem_filter.mp ht).1)
      rcases List.mem_append.mp hs with hs | hs
      · have h1 := side_iff.mp (S_mem.mp hs)
        exact h1.2.2 ((hm _).mpr (.inl (of_decide_eq_true (List.mem_filter.mp ht).2)))
      · have h1 := side_iff.mp (S_mem.mp (List.mem_filter.mp hs).1)
        exact dis _ h1.2.1 h2.2.1
  · refine List.nodup_append.mpr ⟨S_nodup n1, S_nodup n2, ?_⟩
    rintro s hs t ht rfl
    exact dis _ (side_iff.mp (S_mem.mp hs)).2.1 (side_iff.mp (S_mem.mp ht)).2.1
  · simp only [List.mem_append, List.mem_filter, S_mem, side_iff, decide_eq_true_eq, hm]
    constructor
    · rintro ((⟨h1, h2, h3⟩ | ⟨⟨h1, h2, h3⟩, h4⟩) | ⟨⟨h1, h2, h3⟩, h4⟩)
      · rw [not_or] at h3
        rcases h2 with h2 | h2
        · exact .inl ⟨h1, h2, h3.1⟩
        · exact .inr ⟨h1, h2, h3.2⟩
      · exact .inl ⟨h1, h2, h3⟩
      · exact .inr ⟨h1, h2, h3⟩
    · rintro (⟨h1, h2, h3⟩ | ⟨h1, h2, h3⟩)
      · by_cases h4 : rightOf s ∈ Q
        · exact .inl (.inr ⟨⟨h1, h2, h3⟩, h4⟩)
        · exact .inl (.inl ⟨h1, .inl h2, by rw [not_or]; exact ⟨h3, h4⟩⟩)
      · by_cases h4 : rightOf s ∈ P
        · exact .inr ⟨⟨h1, h2, h3⟩, h4⟩
        · exact .inl (.inl ⟨h1, .inr h2, by rw [not_or]; exact ⟨h4, h3⟩⟩)

/-! ### cells moved -/
def mvC (way w h : Int) (c : Cl) : Cl := if way = 0 then (c.1 + 7 - w, c.2 + 7 - h) else if way = 1 then (h - c.2, c.1) else (w - c.1, c.2)
def cmC (way w h : Int) (c : Cl) : Cl := if way = 0 then (c.1 + 7 - w, c.2 + 7 - h) else if way = 1 then (h - 1 - c.2, c.1) else (w - 1 - c.1, c.2)
def msD (way w h : Int) (s : Sd) : Sd := if way = 2 then (mvC way w h s.2, mvC way w h s.1) else (mvC way w h s.1, mvC way w h s.2)
noncomputable def cSort (l : List Cl) : List Cl := l.mergeSort fun a b => PySem.W.dataLe false id (cD a) (cD b)
theorem cSort_map (l : List Cl) : dsort (l.map cD) = (cSort l).map cD := by
  have : (cSort l).map cD = (l.map cD).mergeSort (PySem.W.dataLe false id) := List.map_mergeSort (f := cD) (r := fun a b => PySem.W.dataLe false id (cD a) (cD b)) (s := PySem.W.dataLe false id) fun a _ b _ => rfl
  exact this.symm
theorem cSort_perm (l : List Cl) : (cSort l).Perm l := List.mergeSort_perm _ _
theorem cm_inj (way w h : Int) (a b : Cl) (e : cmC way w h a = cmC way w h b) : a = b := by
  obtain ⟨a1, a2⟩ := a
  obtain ⟨b1, b2⟩ := b
  unfold cmC at e
  split at e
  · simp only [Prod.mk.injEq] at e ⊢
    omega
  · split at e <;> (simp only [Prod.mk.injEq] at e ⊢; omega)
theorem cm_corners (way w h i j : Int) : cmC way w h (i, j) ∈ [mvC way w h (i, j), mvC way w h (i + 1, j), mvC way w h (i, j + 1), mvC way w h (i + 1, j + 1)] ∧ ∀ y ∈ [mvC way w h (i, j), mvC way w h (i + 1, j), mvC way w h (i, j + 1), mvC way w h (i + 1, j + 1)], ltP y (cmC way w h (i, j)) = false := by
  have lt : ∀ {a b c d : Int}, (a = c ∧ d ≤ b) ∨ c < a → ltP (a, b) (c, d) = false := fun {a b c d} q => by
    unfold ltP
    simp only
    split
    · exact decide_eq_false (by omega)
    · exact decide_eq_false (by omega)
  unfold cmC mvC
  by_cases h0 : way = 0
  · simp only [h0, if_true]
    refine ⟨List.mem_cons_self, fun y hy => ?_⟩
    simp only [List.mem_cons, List.not_mem_nil, or_false] at hy
    rcases hy with rfl | rfl | rfl | rfl <;> exact lt (by omega)
  · by_cases h1 : way = 1
    · simp only [h1, if_true, show ¬ (1 : Int) = 0 by decide, if_false]
      refine ⟨?_, fun y hy => ?_⟩
      · exact List.mem_cons_of_mem _ (List.mem_cons_of_mem _ (List.mem_cons.mpr (.inl (Prod.ext (by simp only; omega) rfl))))
      · simp only [List.mem_cons, List.not_mem_nil, or_false] at hy
        rcases hy with rfl | rfl | rfl | rfl <;> exact lt (by omega)
    · simp only [h0, h1, if_false]
      refine ⟨?_, fun y hy => ?_⟩
      · exact List.mem_cons_of_mem _ (List.mem_cons.mpr (.inl (Prod.ext (by simp only; omega) rfl)))
      · simp only [List.mem_cons, List.not_mem_nil, or_false] at hy
        rcases hy with rfl | rfl | rfl | rfl <;> exact lt (by omega)
theorem sent_of {U V : List Cl} {way w h : Int} (hw : way = 0 ∨ way = 1 ∨ way = 2) (hV : ∀ c, c ∈ V ↔ ∃ d ∈ U, cmC way w h d = c) : ∃ b, Sent U V (msD way w h) b := by
  rcases hw with rfl | rfl | rfl
  · have e : msD 0 w h = mv0 (7 - w) (7 - h) := by
      funext ⟨⟨a, b⟩, c, d⟩
      exact sd_ext (by omega) (by omega) (by omega) (by omega)
    rw [e]
    refine ⟨_, sent0 fun x y u v h1 h2 => ?_⟩
    rw [hV]
    refine ⟨fun ⟨⟨a, b⟩, hd, q⟩ => ?_, fun q => ⟨(u, v), q, ?_⟩⟩
    · have q : (a + 7 - w, b + 7 - h) = (x, y) := q
      rw [Prod.mk.injEq] at q
      have e1 : a = u := by omega
      have e2 : b = v := by omega
      rw [← e1, ← e2]
      exact hd
    · show (u + 7 - w, v + 7 - h) = (x, y)
      rw [Prod.mk.injEq]
      omega
  · have e : msD 1 w h = mv1 h := by
      funext ⟨⟨a, b⟩, c, d⟩
      rfl
    rw [e]
    refine ⟨_, sent1 fun x y u v h1 h2 => ?_⟩
    rw [hV]
    refine ⟨fun ⟨⟨a, b⟩, hd, q⟩ => ?_, fun q => ⟨(u, v), q, ?_⟩⟩
    · have q : (h - 1 - b, a) = (x, y) := q
      rw [Prod.mk.injEq] at q
      have e1 : a = u := by omega
      have e2 : b = v := by omega
      rw [← e1, ← e2]
      exact hd
    · show (h - 1 - v, u) = (x, y)
      rw [Prod.mk.injEq]
      omega
  · have e : msD 2 w h = mv2 w := by
      funext ⟨⟨a, b⟩, c, d⟩
      rfl
    rw [e]
    refine ⟨_, sent2 fun x y u v h1 h2 => ?_⟩
    rw [hV]
    refine ⟨fun ⟨⟨a, b⟩, hd, q⟩ => ?_, fun q => ⟨(u, v), q, ?_⟩⟩
    · have q : (w - 1 - a, b) = (x, y) := q
      rw [Prod.mk.injEq] at q
      have e1 : a = u := by omega
      have e2 : b = v := by omega
      rw [← e1, ← e2]
      exact hd
    · show (w - 1 - u, v) = (x, y)
      rw [Prod.mk.injEq]
      omega
theorem goes_data {U V : List Cl} {way w h : Int} (hw : way = 0 ∨ way = 1 ∨ way = 2) (hV : ∀ c, c ∈ V ↔ ∃ d ∈ U, cmC way w h d = c) {ru rv hs : List (List Sd)} (hu : Rings U ru) (hv : Rings V rv) (hp : hs.Perm ru) :
    dsort ((rv.map sortS).map slD) = dsort ((hs.map fun r => sortS ((wkL r).map (msD way w h))).map slD) := by
  obtain ⟨b, hs2⟩ := sent_of hw hV
  refine dsort_eq (List.Perm.map slD ?_) (sls_alike _) (sls_plain _)
  refine (hs2.all hu hv).trans ((hp.map _).symm.trans (List.Perm.of_eq (List.map_congr_left fun r hr => ?_)))
  exact (sortS_eq ((hu.shown r (hp.mem_iff.mp hr)).perm.map _)).symm

/-! ### cells by marks -/
def picks (bs : List Cl) (ms : List Int) (m : Int) : List Cl := ((List.range bs.length).filter fun k => decide (ms.getD k 0 = m)).map fun k => bs.getD k (0, 0)
theorem getD_nth {bs : List Cl} {k : Nat} (h : k < bs.length) : bs[k]? = some (bs.getD k (0, 0)) := by
  rw [List.getD_eq_getElem?_getD, List.getElem?_eq_getElem h]
  rfl
theorem getD_mem {ms : List Int} {k : Nat} (h : k < ms.length) : ms.getD k 0 ∈ ms := by
  rw [List.getD_eq_getElem?_getD, List.getElem?_eq_getElem h]
  exact List.getElem_mem h
theorem range_all (bs : List Cl) : (List.range bs.length).map (fun k => bs.getD k (0, 0)) = bs := by
  refine List.ext_getElem (by simp) fun i h1 h2 => ?_
  rw [List.getElem_map, List.getElem_range, List.getD_eq_getElem?_getD, List.getElem?_eq_getElem h2]
  rfl
theorem picks_two {bs : List Cl} {ms : List Int} (h : ∀ k, k < bs.length → ms.getD k 0 = 0 ∨ ms.getD k 0 = 1) : (picks bs ms 0 ++ picks bs ms 1).Perm bs := by
  have h1 : (((List.range bs.length).filter fun k => decide (ms.getD k 0 = 0)) ++ ((List.range bs.length).filter fun k => decide (ms.getD k 0 = 1))).Perm (List.range bs.length) := by
    refine (filter_two _ _ (fun x a b => by have a := of_decide_eq_true a; have b := of_decide_eq_true b; omega) _).trans (List.Perm.of_eq (List.filter_eq_self.mpr fun k hk => ?_))
    rcases h k (List.mem_range.mp hk) with e | e
    · rw [decide_eq_true e]; rfl
    · rw [decide_eq_true e, Bool.or_true]
  have h2 := h1.map fun k => bs.getD k (0, 0)
  rw [List.map_append, range_all] at h2
  exact h2

theorem flat_len {α β : Type} {n : Nat} {f : α → List β} : ∀ {l : List α}, (∀ x ∈ l, (f x).length ≤ n) → (l.flatMap f).length ≤ l.length * n
  | [], _ => by simp
  | x :: l, h => by
    have h1 := h x List.mem_cons_self
    have h2 := flat_len (n := n) (f := f) (l := l) fun y hy => h y (List.mem_cons_of_mem _ hy)
    rw [List.flatMap_cons, List.length_append, List.length_cons, Nat.succ_mul]
    omega

structure Tx (w : World) (K : PySem.W.Frag) (mg : Str → Option Value) where
  f_going : Addr
  d_going : FuncData
  F_going : Fun K "going" "going" s_going f_going d_going
  g_going : mg "going" = some (.ref f_going)
  b_going : Binds K d_going ["side"] []
  f_left_of : Addr
  d_left_of : FuncData
  F_left_of : Fun K "left_of" "left_of" s_left_of f_left_of d_left_of
  g_left_of : mg "left_of" = some (.ref f_left_of)
  b_left_of : Binds K d_left_of ["side"] []
  f_right_of : Addr
  d_right_of : FuncData
  F_right_of : Fun K "right_of" "right_of" s_right_of f_right_of d_right_of
  g_right_of : mg "right_of" = some (.ref f_right_of)
  b_right_of : Binds K d_right_of ["side"] []
  f_round_cell : Addr
  d_round_cell : FuncData
  F_round_cell : Fun K "round_cell" "round_cell" s_round_cell f_round_cell d_round_cell
  g_round_cell : mg "round_cell" = some (.ref f_round_cell)
  b_round_cell : Binds K d_round_cell ["cell"] []
  f_sides : Addr
  d_sides : FuncData
  F_sides : Fun K "sides" "sides" s_sides f_sides d_sides
  g_sides : mg "sides" = some (.ref f_sides)
  b_sides : Binds K d_sides ["cells"] []
  f_next_side : Addr
  d_next_side : FuncData
  F_next_side : Fun K "next_side" "next_side" s_next_side f_next_side d_next_side
  g_next_side : mg "next_side" = some (.ref f_next_side)
  b_next_side : Binds K d_next_side ["left", "side"] []
  f_turned_at : Addr
  d_turned_at : FuncData
  F_turned_at : Fun K "turned_at" "turned_at" s_turned_at f_turned_at d_turned_at
  g_turned_at : mg "turned_at" = some (.ref f_turned_at)
  b_turned_at : Binds K d_turned_at ["some"] []
  f_rings : Addr
  d_rings : FuncData
  F_rings : Fun K "rings" "rings" s_rings f_rings d_rings
  g_rings : mg "rings" = some (.ref f_rings)
  b_rings : Binds K d_rings ["cells"] []
  f_round_of : Addr
  d_round_of : FuncData
  F_round_of : Fun K "round_of" "round_of" s_round_of f_round_of d_round_of
  g_round_of : mg "round_of" = some (.ref f_round_of)
  b_round_of : Binds K d_round_of ["cell"] []
  f_piece_of : Addr
  d_piece_of : FuncData
  F_piece_of : Fun K "piece_of" "piece_of" s_piece_of f_piece_of d_piece_of
  g_piece_of : mg "piece_of" = some (.ref f_piece_of)
  b_piece_of : Binds K d_piece_of ["cells", "first"] []
  f_pieces : Addr
  d_pieces : FuncData
  F_pieces : Fun K "pieces" "pieces" s_pieces f_pieces d_pieces
  g_pieces : mg "pieces" = some (.ref f_pieces)
  b_pieces : Binds K d_pieces ["cells"] []
  f__law_begun : Addr
  d__law_begun : FuncData
  F__law_begun : Fun K "_law_begun" "_law_begun" s__law_begun f__law_begun d__law_begun
  g__law_begun : mg "_law_begun" = some (.ref f__law_begun)
  b__law_begun : Binds K d__law_begun ["script"] []
  f__law_take : Addr
  d__law_take : FuncData
  F__law_take : Fun K "_law_take" "_law_take" s__law_take f__law_take d__law_take
  g__law_take : mg "_law_take" = some (.ref f__law_take)
  b__law_take : Binds K d__law_take ["draw", "many"] []
  f__law_pick : Addr
  d__law_pick : FuncData
  F__law_pick : Fun K "_law_pick" "_law_pick" s__law_pick f__law_pick d__law_pick
  g__law_pick : mg "_law_pick" = some (.ref f__law_pick)
  b__law_pick : Binds K d__law_pick ["draw", "some"] []
  f__law_box : Addr
  d__law_box : FuncData
  F__law_box : Fun K "_law_box" "_law_box" s__law_box f__law_box d__law_box
  g__law_box : mg "_law_box" = some (.ref f__law_box)
  b__law_box : Binds K d__law_box ["draw", "wide", "high"] []
  f__law_kept : Addr
  d__law_kept : FuncData
  F__law_kept : Fun K "_law_kept" "_law_kept" s__law_kept f__law_kept d__law_kept
  g__law_kept : mg "_law_kept" = some (.ref f__law_kept)
  b__law_kept : Binds K d__law_kept ["draw", "way", "wide", "high", "cell"] []
  f__law_region : Addr
  d__law_region : FuncData
  F__law_region : Fun K "_law_region" "_law_region" s__law_region f__law_region d__law_region
  g__law_region : mg "_law_region" = some (.ref f__law_region)
  b__law_region : Binds K d__law_region ["draw", "wide", "high"] []
  f__law_size : Addr
  d__law_size : FuncData
  F__law_size : Fun K "_law_size" "_law_size" s__law_size f__law_size d__law_size
  g__law_size : mg "_law_size" = some (.ref f__law_size)
  b__law_size : Binds K d__law_size ["draw"] []
  f_steps_to : Addr
  d_steps_to : FuncData
  F_steps_to : Fun K "steps_to" "steps_to" s_steps_to f_steps_to d_steps_to
  g_steps_to : mg "steps_to" = some (.ref f_steps_to)
  b_steps_to : Binds K d_steps_to ["begin", "end"] []
  f_ring_sides : Addr
  d_ring_sides : FuncData
  F_ring_sides : Fun K "ring_sides" "ring_sides" s_ring_sides f_ring_sides d_ring_sides
  g_ring_sides : mg "ring_sides" = some (.ref f_ring_sides)
  b_ring_sides : Binds K d_ring_sides ["ring"] []
  f__law_moved : Addr
  d__law_moved : FuncData
  F__law_moved : Fun K "_law_moved" "_law_moved" s__law_moved f__law_moved d__law_moved
  g__law_moved : mg "_law_moved" = some (.ref f__law_moved)
  b__law_moved : Binds K d__law_moved ["corner", "way", "size"] []
  f__law_cell_moved : Addr
  d__law_cell_moved : FuncData
  F__law_cell_moved : Fun K "_law_cell_moved" "_law_cell_moved" s__law_cell_moved f__law_cell_moved d__law_cell_moved
  g__law_cell_moved : mg "_law_cell_moved" = some (.ref f__law_cell_moved)
  b__law_cell_moved : Binds K d__law_cell_moved ["cell", "way", "size"] []
  f__law_as_sets : Addr
  d__law_as_sets : FuncData
  F__law_as_sets : Fun K "_law_as_sets" "_law_as_sets" s__law_as_sets f__law_as_sets d__law_as_sets
  g__law_as_sets : mg "_law_as_sets" = some (.ref f__law_as_sets)
  b__law_as_sets : Binds K d__law_as_sets ["region"] []
  f__law_goes_with : Addr
  d__law_goes_with : FuncData
  F__law_goes_with : Fun K "_law_goes_with" "_law_goes_with" s__law_goes_with f__law_goes_with d__law_goes_with
  g__law_goes_with : mg "_law_goes_with" = some (.ref f__law_goes_with)
  b__law_goes_with : Binds K d__law_goes_with ["region", "way", "size"] []
  f_between : Addr
  d_between : FuncData
  F_between : Fun K "between" "between" s_between f_between d_between
  g_between : mg "between" = some (.ref f_between)
  b_between : Binds K d_between ["one", "other"] []
  f__law_parted : Addr
  d__law_parted : FuncData
  F__law_parted : Fun K "_law_parted" "_law_parted" s__law_parted f__law_parted d__law_parted
  g__law_parted : mg "_law_parted" = some (.ref f__law_parted)
  b__law_parted : Binds K d__law_parted ["draw", "region"] []
  f_law : Addr
  d_law : FuncData
  F_law : Fun K "law" "law" s_law f_law d_law
  g_law : mg "law" = some (.ref f_law)
  b_law : Binds K d_law ["script"] []
  n_abs : mg "abs" = none
  n_enumerate : mg "enumerate" = none
  n_len : mg "len" = none
  n_list : mg "list" = none
  n_min : mg "min" = none
  n_range : mg "range" = none
  n_sorted : mg "sorted" = none
  n_tuple : mg "tuple" = none
  n_zip : mg "zip" = none
  a_EAST : Addr
  m_EAST : mg "EAST" = some (.ref a_EAST)
  v_EAST : Dt K (fun _ => none) (.ref a_EAST) (.tuple [(.int (1)), (.int (0))])
  a_NORTH : Addr
  m_NORTH : mg "NORTH" = some (.ref a_NORTH)
  v_NORTH : Dt K (fun _ => none) (.ref a_NORTH) (.tuple [(.int (0)), (.int (1))])
  a_WEST : Addr
  m_WEST : mg "WEST" = some (.ref a_WEST)
  v_WEST : Dt K (fun _ => none) (.ref a_WEST) (.tuple [(.int (-1)), (.int (0))])
end Q25

namespace Q25
open PySem L2 DL




local macro_rules | `(tactic| walk_at "side") => `(tactic| first
  | exact Or.inr ⟨by decide, by decide⟩
  | exact Or.inl ⟨by decide, by decide⟩
  | exact Or.inl ⟨by omega, by omega⟩
  | exact Or.inr ⟨by omega, by omega⟩
  | exact ⟨by decide, by decide⟩
  | exact ⟨by omega, by omega⟩
  | (show (0 : Int) < _; omega)
  | (show (0 : Int) < _; decide))
local macro_rules | `(tactic| walk_at "sh") => `(tactic| first
  | assumption
  | (simp [SeqAt.shaped, PyData.canLay0, PyData.canLayAll0, PyData.depth, PyData.depthAll]; done))
local macro_rules | `(tactic| walk_at "cell") => `(tactic| first
  | exact List.mem_cons_self
  | exact List.mem_cons_of_mem _ List.mem_cons_self
  | exact List.mem_cons_of_mem _ (List.mem_cons_of_mem _ List.mem_cons_self)
  | exact List.mem_cons_of_mem _ (List.mem_cons_of_mem _ (List.mem_cons_of_mem _ List.mem_cons_self)))
local macro_rules | `(tactic| walk_at "upd") => `(tactic| first
  | exact Upd.head
  | exact Upd.tail Upd.head
  | exact Upd.tail (Upd.tail Upd.head)
  | exact Upd.tail (Upd.tail (Upd.tail Upd.head)))
local macro_rules | `(tactic| walk_at "rem") => `(tactic| first
  | exact Rem.head
  | exact Rem.tail Rem.head
  | exact Rem.tail (Rem.tail Rem.head)
  | exact Rem.tail (Rem.tail (Rem.tail Rem.head)))
local macro_rules | `(tactic| walk_at "to") => `(tactic| first
  | exact to_name (by decide)
  | (refine to_tupK ?_; repeat (first | exact tok_nil | refine tok_name (by decide) ?_ | refine tok_tup ?_ ?_)))
local macro_rules | `(tactic| walk_at "wp1e") => `(tactic| first
  | (with_reducible refine go_ret ?_)
  | (with_reducible refine go_set ?_)
  | (with_reducible refine go_drop ?_)
  | (with_reducible refine go_lput ?_)
  | (with_reducible refine go_fld ?_)
  | (with_reducible refine go_asgT ?_)
  | (with_reducible refine go_asg ?_)
  | (with_reducible refine go_if ?_)
  | (with_reducible refine go_par ?_)
  | (with_reducible refine go_dput ?_)
  | ((with_reducible refine' wp_vd ?e ?_); (case e => rfl))
  | ((with_reducible refine' wp_vp ?e ?_); (case e => rfl))
  | ((with_reducible refine' wp_vs ?e ?_); (case e => rfl))
  | (with_reducible refine wp_ci ?_)
  | (with_reducible refine wp_cs ?_)
  | (with_reducible refine wp_cb ?_)
  | (with_reducible refine wp_cn ?_)
  | ((with_reducible refine' wp_c ?e ?_); (case e => assumption))
  | (with_reducible refine wp_op ?_)
  | (with_reducible refine wp_un ?_)
  | (with_reducible refine wpa_nil ?_)
  | (with_reducible refine wpa_cons ?_)
  | (with_reducible refine wpp_nil ?_)
  | (with_reducible refine wpp_cons ?_)
  | (with_reducible refine wp_tup ?_)
  | (with_reducible refine wp_lst ?_)
  | (with_reducible refine wp_isi2 (by first | exact .inl rfl | exact .inr rfl) (by first | exact .inl rfl | exact .inr rfl) ?_)
  | (with_reducible refine wp_isiG ?_)
  | (with_reducible refine wp_cb_call ?_)
  | (with_reducible refine wp_call ?_)
  | (with_reducible refine wp_callP ?_)
  | (with_reducible refine wp_dget ?_)
  | (with_reducible refine wp_sl ?_)
  | (with_reducible refine wpo_none ?_)
  | (with_reducible refine wpo_some ?_)
  | (with_reducible refine wp_chain ?_)
  | (with_reducible refine wp_disp ?_)
  | (with_reducible refine wp_dnew ?_)
  | (with_reducible refine wpt_test ?_)
  | (with_reducible refine wpt_b ?_)
  | (with_reducible refine wpt_not ?_)
  | (with_reducible refine wpt_yes ?_)
  | (with_reducible refine gw_name ?_)
  | ((refine' gw_tup ?e ?_); (case e => rfl))
  | (refine gws_cons ?_)
  | (refine gws_nil ?_)
  | ((refine' rw_I0 ?e ?_); (case e => rfl))
  | ((refine' rw_I ?c ?e ?_); (case e => rfl); (case c => walk_at "side"))
  | ((refine' uw_U ?e ?_); (case e => rfl))
  | ((refine' rw_ixT ?e ?_); (case e => rfl))
  | ((refine' rw_ixL ?e ?_); (case e => rfl))
  | ((refine' rw_eqD ?e1 ?e2 ?_); (case e1 => walk_at "sh"); (case e2 => walk_at "sh"))
  | ((refine' rw_neD ?e1 ?e2 ?_); (case e1 => walk_at "sh"); (case e2 => walk_at "sh"))
  | ((refine' rw_inT ?e1 ?e2 ?_); (case e1 => walk_at "sh"); (case e2 => walk_at "sh"))
  | ((refine' rw_inL ?e1 ?e2 ?_); (case e1 => walk_at "sh"); (case e2 => walk_at "sh"))
  | ((refine' rw_niT ?e1 ?e2 ?_); (case e1 => walk_at "sh"); (case e2 => walk_at "sh"))
  | ((refine' rw_niL ?e1 ?e2 ?_); (case e1 => walk_at "sh"); (case e2 => walk_at "sh"))
  | (with_reducible refine rw_eqS ?_)
  | (with_reducible refine rw_inC ?_)
  | (with_reducible refine rw_niC ?_)
  | (with_reducible refine rw_neS ?_)
  | (with_reducible refine rw_isN ?_)
  | (with_reducible refine rw_notN ?_)
  | (with_reducible refine wp_if ?_)
  | (with_reducible refine go_next ?_)
  | (with_reducible refine go_cont ?_)
  | (with_reducible refine go_break ?_))
local macro_rules | `(tactic| walk_at "wp1") => `(tactic| first
  | (with_reducible refine go_seq ?_)
  | walk_at "wp1e")
local macro_rules | `(tactic| walk_at "ex") => `(tactic| first
  | (refine ⟨_, rfl, (sz64 rfl), ?_⟩)
  | (refine ⟨_, rfl, ?_⟩)
  | (refine ⟨_, _, rfl, ?_⟩)
  | (refine ⟨_, Or.inl rfl, (by decide), ?_⟩)
  | (refine ⟨_, Or.inr ⟨_, _, rfl, (by walk_at "cell"), rfl⟩, (by decide), ?_⟩))
local macro_rules | `(tactic| walk_at "wp") => `(tactic| repeat (first | walk_at "wp1" | walk_at "ex"))
local macro_rules | `(tactic| walk_at "wpe") => `(tactic| repeat (first | walk_at "wp1e" | walk_at "ex"))

local macro_rules | `(tactic| walk_at "dec") => `(tactic| first
  | assumption
  | (simp [isK, isNone, PyData.isTuple, PyData.isStr, PyData.isInt, PyData.isBool, PyData.isList, PyData.isDict, PyData.eqv, PyData.eqvAll]; done)
  | (simp [isK, isNone, PyData.isTuple, PyData.isStr, PyData.isInt, PyData.isBool, PyData.isList, PyData.isDict, PyData.eqv, PyData.eqvAll]; omega)
  | (simp_all [isK, isNone, PyData.isTuple, PyData.isStr, PyData.isInt, PyData.isBool, PyData.isList, PyData.isDict, PyData.eqv, PyData.eqvAll]; done))
local macro_rules | `(tactic| walk_at "br") => `(tactic| first
  | (refine ⟨fun _ => ?_, fun e => Bool.noConfusion e⟩)
  | (refine ⟨fun e => Bool.noConfusion e, fun _ => ?_⟩)
  | (refine ⟨fun _ => ?_, fun e => absurd e (by walk_at "dec")⟩)
  | (refine ⟨fun e => absurd e (by walk_at "dec"), fun _ => ?_⟩))
local macro_rules | `(tactic| walk_at "go1") => `(tactic| first
  | walk_at "wp1"
  | walk_at "ex"
  | (with_reducible refine rw_isB ?_)
  | (with_reducible refine rw_notB ?_)
  | (with_reducible refine wpt_or ?_)
  | (with_reducible refine wpt_and ?_)
  | (with_reducible refine wp_andV ?_)
  | (with_reducible refine wp_orV ?_)
  | (with_reducible refine cw_lenT ?_)
  | (with_reducible refine cw_lenL ?_)
  | (with_reducible refine sw_tup ?_)
  | (with_reducible refine sw_list ?_)
  | walk_at "br")
local macro_rules | `(tactic| walk_at "goD") => `(tactic| repeat (first | (with_reducible refine wp_dnewD ?_) | walk_at "go1"))
local macro_rules | `(tactic| walk_at "go1e") => `(tactic| first
  | walk_at "wp1e"
  | walk_at "ex"
  | (with_reducible refine rw_isB ?_)
  | (with_reducible refine rw_notB ?_)
  | (with_reducible refine wpt_or ?_)
  | (with_reducible refine wpt_and ?_)
  | (with_reducible refine wp_andV ?_)
  | (with_reducible refine wp_orV ?_)
  | (with_reducible refine cw_lenT ?_)
  | (with_reducible refine cw_lenL ?_)
  | (with_reducible refine sw_tup ?_)
  | (with_reducible refine sw_list ?_)
  | walk_at "br")
local macro_rules | `(tactic| walk_at "goe") => `(tactic| repeat (walk_at "go1e"))
local macro_rules | `(tactic| walk_at "go") => `(tactic| repeat (walk_at "go1"))

local macro_rules | `(tactic| walk_at "wp1e") => `(tactic| first
  | (with_reducible refine wp_kdget ?_)
  | (with_reducible refine wp_kdin ?_)
  | (with_reducible refine wp_kdni ?_)
  | (with_reducible refine go_kdput ?_)
  | (with_reducible refine gw_kdsub ?_)
  | (with_reducible refine wp_kdsetd ?_)
  | (with_reducible refine wp_kdnew ?_)
  | (with_reducible refine wp_kddisp ?_))

local macro_rules | `(tactic| walk_at "dg") => `(tactic| first
  | refine ⟨_, _, kR, _, rfl, rfl, by walk_at "cell", look_R, ?_⟩
  | refine ⟨_, _, kA, _, rfl, rfl, by walk_at "cell", look_A, ?_⟩
  | refine ⟨_, _, kG, _, rfl, rfl, by walk_at "cell", look_G, ?_⟩
  | refine ⟨_, _, kT, _, rfl, rfl, by walk_at "cell", look_T, ?_⟩
  | refine ⟨_, _, kM, _, rfl, rfl, by walk_at "cell", look_M, ?_⟩)
local macro_rules | `(tactic| walk_at "dp") => `(tactic| ((first
  | refine ⟨_, _, kR, _, rfl, rfl, by walk_at "upd", five rfl, ?_⟩
  | refine ⟨_, _, kA, _, rfl, rfl, by walk_at "upd", five rfl, ?_⟩
  | refine ⟨_, _, kT, _, rfl, rfl, by walk_at "upd", five rfl, ?_⟩
  | refine ⟨_, _, kM, _, rfl, rfl, by walk_at "upd", five rfl, ?_⟩); (try rw [put_R]); (try rw [put_A]); (try rw [put_T]); (try rw [put_M])))
local macro_rules | `(tactic| walk_at "wd") => `(tactic| repeat (first | walk_at "wp1" | walk_at "dg" | walk_at "dp" | walk_at "ex" | refine cw_lenP (by walk_at "cell") ?_))

section
variable {P : Program} {w : World} {K : PySem.W.Frag} {mg : Str → Option Value} {base : Heap}
def W_going : List SV → Amb → KA → Prop := fun ss A k => ∃ s : Sd, ss = [.dat (sD s)] ∧ k A (.dat (cD (going s)))
theorem ok_going (T : Tx w K mg) : FnOk P w K mg base CX0 1 T.f_going T.d_going ["side"] (spW K (W_going)) := by
  refine fn_go T.F_going sc_going (fun ss A k h => ?_) (fun cdv A outer s H E hr => ?_)
  · obtain ⟨i, rfl, _⟩ := h; rfl
  · have hu : (A.deeper (PyProof.Rows.envOfC "going" (defScope s_going) s.heap.objs.size T.f_going cdv)).units + 65 < cLine := by have := hr.un; omega
    have hu1 := hu_of hr
    refine ⟨_, (pss_cons (ps_asg (pv 0) (pg_tupK K 2 rfl (pgs_cons (pg_name (i := 1) sc_going.nd rfl (Or.inl rfl)) (pgs_cons (pg_name (i := 2) sc_going.nd rfl (Or.inl rfl)) pgs_nil))))
      (pss_one (ps_ret (pe_tup (pa_cons (pe_op op_sub (pe_ix (ixK K) (pv 2) pe_int (fun _ _ => rfl)) (pe_ix (ixK K) (pv 1) pe_int (fun _ _ => rfl))) (pa_cons (pe_op op_sub (pe_ix (ixK K) (pv 2) pe_int (fun _ _ => rfl)) (pe_ix (ixK K) (pv 1) pe_int (fun _ _ => rfl))) pa_nil)))))), ?_⟩
    rintro ss A k ⟨i, rfl, hk⟩
    (try dsimp only [cxK] at hk); (try dsimp only [cxK])
    change Go _ _ _ [_, SV.no, SV.no] _
    walk_at "wp"
    exact hk
def W_left_of : List SV → Amb → KA → Prop := fun ss A k => ∃ s : Sd, ss = [.dat (sD s)] ∧ k A (.dat (cD (leftOf s)))
theorem ok_left_of (T : Tx w K mg) : FnOk P w K mg base CX0 2 T.f_left_of T.d_left_of ["side"] (spW K (W_left_of)) := by
  refine fn_go T.F_left_of sc_left_of (fun ss A k h => ?_) (fun cdv A outer s H E hr => ?_)
  · obtain ⟨i, rfl, _⟩ := h; rfl
  · have hu : (A.deeper (PyProof.Rows.envOfC "left_of" (defScope s_left_of) s.heap.objs.size T.f_left_of cdv)).units + 65 < cLine := by have := hr.un; omega
    have hu1 := hu_of hr
    have h_EAST := T.v_EAST
    have h_NORTH := T.v_NORTH
    have h_WEST := T.v_WEST
    refine ⟨_, (pss_cons (ps_asg (pe_tup (pa_cons (pe_ix (ixK K) (pv 0) pe_int (fun _ _ => rfl)) (pa_cons (pe_call (ok_going T) (hr.mono (by decide)) (by rfl) T.g_going T.F_going.kp T.b_going .nil pass0 (pa_cons (pv 0) pa_nil)) pa_nil))) (pg_tupK K 2 rfl (pgs_cons (pg_tupK K 2 rfl (pgs_cons (pg_name (i := 1) sc_left_of.nd rfl (Or.inl rfl)) (pgs_cons (pg_name (i := 2) sc_left_of.nd rfl (Or.inl rfl)) pgs_nil))) (pgs_cons (pg_name (i := 3) sc_left_of.nd rfl (Or.inl rfl)) pgs_nil))))
      (pss_cons (ps_if (pt_cmpR (op_eqK K hu) (pv 3) (pe_glob (v := .ref T.a_EAST) rfl T.m_EAST rfl) (nomark _))
        (pss_one (ps_ret (pe_tup (pa_cons (pv 1) (pa_cons (pv 2) pa_nil)))))
        pss_nil)
      (pss_cons (ps_if (pt_cmpR (op_eqK K hu) (pv 3) (pe_glob (v := .ref T.a_NORTH) rfl T.m_NORTH rfl) (nomark _))
        (pss_one (ps_ret (pe_tup (pa_cons (pe_op op_sub (pv 1) pe_int) (pa_cons (pv 2) pa_nil)))))
        pss_nil)
      (pss_one (ps_ret (pe_ifExp (pt_cmpR (op_eqK K hu) (pv 3) (pe_glob (v := .ref T.a_WEST) rfl T.m_WEST rfl) (nomark _)) (pe_tup (pa_cons (pe_op op_sub (pv 1) pe_int) (pa_cons (pe_op op_sub (pv 2) pe_int) pa_nil))) (pe_tup (pa_cons (pv 1) (pa_cons (pe_op op_sub (pv 2) pe_int) pa_nil))))))))), ?_⟩
    rintro ss A k ⟨i, rfl, hk⟩
    (try dsimp only [cxK] at hk); (try dsimp only [cxK])
    change Go _ _ _ [_, SV.no, SV.no, SV.no] _
    have s1 := cD_shaped (going i)
    walk_at "wp"
    refine ⟨rfl, by decide, ?_⟩
    walk_at "wp"
    have e1 : PyData.eqv (cD (going i)) (.tuple [.int 1, .int 0]) = decide (going i = (1, 0)) := eq_cell _ (1, 0)
    have e2 : PyData.eqv (cD (going i)) (.tuple [.int 0, .int 1]) = decide (going i = (0, 1)) := eq_cell _ (0, 1)
    have e3 : PyData.eqv (cD (going i)) (.tuple [.int (-1), .int 0]) = decide (going i = (-1, 0)) := eq_cell _ (-1, 0)
    unfold leftOf at hk
    refine ⟨fun h1 => ?_, fun h1 => ?_⟩
    · rw [e1, decide_eq_true_eq] at h1
      rw [if_pos h1] at hk
      walk_at "wp"
      exact hk
    · rw [e1, decide_eq_false_iff_not] at h1
      rw [if_neg h1] at hk
      walk_at "wp"
      refine ⟨fun h2 => ?_, fun h2 => ?_⟩
      · rw [e2, decide_eq_true_eq] at h2
        rw [if_pos h2] at hk
        walk_at "wp"
        exact hk
      · rw [e2, decide_eq_false_iff_not] at h2
        rw [if_neg h2] at hk
        walk_at "wp"
        refine ⟨fun h3 => ?_, fun h3 => ?_⟩
        · rw [e3, decide_eq_true_eq] at h3
          rw [if_pos h3] at hk
          walk_at "wp"
          exact hk
        · rw [e3, decide_eq_false_iff_not] at h3
          rw [if_neg h3] at hk
          walk_at "wp"
          exact hk
def W_right_of : List SV → Amb → KA → Prop := fun ss A k => ∃ s : Sd, ss = [.dat (sD s)] ∧ k A (.dat (cD (rightOf s)))
theorem ok_right_of (T : Tx w K mg) : FnOk P w K mg base CX0 3 T.f_right_of T.d_right_of ["side"] (spW K (W_right_of)) := by
  refine fn_go T.F_right_of sc_right_of (fun ss A k h => ?_) (fun cdv A outer s H E hr => ?_)
  · obtain ⟨i, rfl, _⟩ := h; rfl
  · have hu : (A.deeper (PyProof.Rows.envOfC "right_of" (defScope s_right_of) s.heap.objs.size T.f_right_of cdv)).units + 65 < cLine := by have := hr.un; omega
    have hu1 := hu_of hr
    refine ⟨_, (pss_cons (ps_asg (pv 0) (pg_tupK K 2 rfl (pgs_cons (pg_name (i := 1) sc_right_of.nd rfl (Or.inl rfl)) (pgs_cons (pg_name (i := 2) sc_right_of.nd rfl (Or.inl rfl)) pgs_nil))))
      (pss_one (ps_ret (pe_call (ok_left_of T) (hr.mono (by decide)) (by rfl) T.g_left_of T.F_left_of.kp T.b_left_of .nil pass0 (pa_cons (pe_tup (pa_cons (pv 2) (pa_cons (pv 1) pa_nil))) pa_nil))))), ?_⟩
    rintro ss A k ⟨i, rfl, hk⟩
    (try dsimp only [cxK] at hk); (try dsimp only [cxK])
    change Go _ _ _ [_, SV.no, SV.no] _
    walk_at "wp"
    exact ⟨(i.2, i.1), rfl, hk⟩
def W_round_cell : List SV → Amb → KA → Prop := fun ss A k => ∃ c : Cl, ss = [.dat (cD c)] ∧ k A (.dat (.list ((roundCell c).map sD)))
theorem ok_round_cell (T : Tx w K mg) : FnOk P w K mg base CX0 1 T.f_round_cell T.d_round_cell ["cell"] (spW K (W_round_cell)) := by
  refine fn_go T.F_round_cell sc_round_cell (fun ss A k h => ?_) (fun cdv A outer s H E hr => ?_)
  · obtain ⟨i, rfl, _⟩ := h; rfl
  · have hu : (A.deeper (PyProof.Rows.envOfC "round_cell" (defScope s_round_cell) s.heap.objs.size T.f_round_cell cdv)).units + 65 < cLine := by have := hr.un; omega
    have hu1 := hu_of hr
    refine ⟨_, (pss_cons (ps_asg (pv 0) (pg_tupK K 2 rfl (pgs_cons (pg_name (i := 1) sc_round_cell.nd rfl (Or.inl rfl)) (pgs_cons (pg_name (i := 2) sc_round_cell.nd rfl (Or.inl rfl)) pgs_nil))))
      (pss_cons (ps_set (i := 3) sc_round_cell.nd rfl (Or.inr rfl) (pe_lst (pa_cons (pe_tup (pa_cons (pv 1) (pa_cons (pv 2) pa_nil))) (pa_cons (pe_tup (pa_cons (pe_op op_add (pv 1) pe_int) (pa_cons (pv 2) pa_nil))) (pa_cons (pe_tup (pa_cons (pe_op op_add (pv 1) pe_int) (pa_cons (pe_op op_add (pv 2) pe_int) pa_nil))) (pa_cons (pe_tup (pa_cons (pv 1) (pa_cons (pe_op op_add (pv 2) pe_int) pa_nil))) pa_nil))))))
      (pss_one (ps_ret (pe_lc (own := [("at", 4)]) rfl sc_round_cell.nd (pi_range1 (by rfl) T.n_range (pa_cons pe_int pa_nil)) (blkOk_by (own := [("at", 4)]) (N := NN_round_cell) (sc := (defScope s_round_cell)) (by decide +kernel)) (fun _ _ _ _ _ => (pg_name (i := 4) sc_round_cell.nd rfl (by first | exact Or.inl rfl | exact Or.inr rfl))) (fun _ _ _ _ _ => pts_nil) (fun _ _ _ _ _ => (pe_tup (pa_cons (pe_ix (ixK K) (pv 3) (pe_op op_sub (pv 4) pe_int) (fun _ _ => rfl)) (pa_cons (pe_ix (ixK K) (pv 3) (pv 4) (fun _ _ => rfl)) pa_nil))))))))), ?_⟩
    rintro ss A k ⟨i, rfl, hk⟩
    (try dsimp only [cxK] at hk); (try dsimp only [cxK])
    change Go _ _ _ [_, SV.no, SV.no, SV.no, SV.no] _
    walk_at "wp"
    refine wp_lcA (enc := fun (j : Nat) => PyData.int (0 + (j : Int))) (xs := List.range 4) (by walk_at "to") (fun j => sD ((roundCell i).getD j default)) (sz64 rfl) ?_
    refine iw_rng1 ?_
    walk_at "wp"
    refine ⟨by decide, by decide, irange_enc 0 4, fun j hj => ?_, hk⟩
    have hj4 : j < 4 := List.mem_range.mp hj
    match j, hj4 with
    | 0, _ => walk_at "wp"; exact ⟨rfl, rfl⟩
    | 1, _ => walk_at "wp"; exact ⟨rfl, rfl⟩
    | 2, _ => walk_at "wp"; exact ⟨rfl, rfl⟩
    | 3, _ => walk_at "wp"; exact ⟨rfl, rfl⟩
def W_sides : List SV → Amb → KA → Prop := fun ss A k => ∃ cs : List Cl, ss = [.dat (.tuple (cs.map cD))] ∧ cs.length ≤ 1000 ∧ ∀ q, k (A.add q (.lst ((sidesD cs).map .dat))) (.ptr q)
theorem ok_sides (T : Tx w K mg) : FnOk P w K mg base CX0 4 T.f_sides T.d_sides ["cells"] (spW K (W_sides)) := by
  refine fn_go T.F_sides sc_sides (fun ss A k h => ?_) (fun cdv A outer s H E hr => ?_)
  · obtain ⟨i, rfl, _⟩ := h; rfl
  · have hu : (A.deeper (PyProof.Rows.envOfC "sides" (defScope s_sides) s.heap.objs.size T.f_sides cdv)).units + 65 < cLine := by have := hr.un; omega
    have hu1 := hu_of hr
    refine ⟨_, (pss_one (ps_ret (pe_callB (cr_sortK K hu) (by rfl) T.n_sorted (by decide +kernel) (pa_cons (pe_lc2 (own := [("cell", 1), ("side", 2)]) (vs1 := [2]) rfl sc_sides.nd (pi_tupK K (pv 0)) (blkOk_by (own := [("cell", 1), ("side", 2)]) (N := NN_sides) (sc := (defScope s_sides)) (by decide +kernel)) (by decide) (fun _ _ _ _ _ => (pg_name (i := 1) sc_sides.nd rfl (by first | exact Or.inl rfl | exact Or.inr rfl))) (fun _ _ _ _ _ => pts_nil) (fun _ _ _ _ _ => (pi_listK K (pe_call (ok_round_cell T) (hr.mono (by decide)) (by rfl) T.g_round_cell T.F_round_cell.kp T.b_round_cell .nil pass0 (pa_cons (pv 1) pa_nil)))) (fun _ _ _ _ _ => (pg_name (i := 2) sc_sides.nd rfl (by first | exact Or.inl rfl | exact Or.inr rfl))) (fun _ _ _ _ _ => pts_one (pt_cmpR (op_niK K hu) (pe_call (ok_right_of T) (hr.mono (by decide)) (by rfl) T.g_right_of T.F_right_of.kp T.b_right_of .nil pass0 (pa_cons (pv 2) pa_nil)) (pv 0) rfl)) (fun _ _ _ _ _ => (pv 2))) pa_nil)))), ?_⟩
    rintro ss A k ⟨i, rfl, hk⟩
    (try dsimp only [cxK] at hk); (try dsimp only [cxK])
    change Go _ _ _ [_, SV.no, SV.no] _
    obtain ⟨hl, hk⟩ := hk
    walk_at "wp"
    refine wp_frz ?_
    refine wp_lc2M (enc := cD) (enc1 := sD) (xs := i) (ys := roundCell) (by walk_at "to") (by walk_at "to") (fun _ s => decide (¬ rightOf s ∈ i)) (fun _ s => sD s) (n := 4) (fun x _ => Nat.le_refl 4) (sz (by omega)) ?_
    refine iw_tup ?_
    walk_at "wp"
    refine ⟨rfl, fun x hx => ?_, fun q => ?_⟩
    · walk_at "wp"
      refine ⟨rfl, iw_list ?_⟩
      walk_at "wp"
      refine ⟨rfl, rfl, fun y hy => ?_⟩
      have s1 := cD_shaped (rightOf y)
      have s2 := cells_shaped i
      unfold LcItem
      walk_at "wp"
      refine ⟨by rw [in_cells]; simp, fun _ => ?_, fun _ => rfl⟩
      walk_at "wp"
      exact ⟨rfl, rfl⟩
    · refine ⟨q, _, A.cells, rfl, .head, ?_⟩
      walk_at "wp"
      have e : (i.flatMap fun x => ((roundCell x).filter fun s => decide (¬ rightOf s ∈ i)).map fun s => sD s) = (presides i).map sD := by
        unfold presides
        rw [List.map_flatMap]
      rw [e]
      exact cw_sortL (sides_alike _) (sides_sort _) (sides_depth _) hk
def W_next_side : World → List SV → Amb → KA → Prop := fun w ss A k => ∃ x : Addr × Addr × List (NestedKey × SV) × List Cl × Sd, ss = [.ptr x.1, .dat (sD x.2.2.2.2)] ∧ (x.1, .kd w x.2.2.1) ∈ A.cells ∧ lookS x.2.2.1 (cK x.2.2.2.2.2) = some (.ptr x.2.1) ∧ (x.2.1, .lst (((atC (Sds x.2.2.2.1) x.2.2.2.2.2).map sD).map .dat)) ∈ A.cells ∧ Side x.2.2.2.1 x.2.2.2.2 ∧ x.2.2.2.1.Nodup ∧ k A (.dat (sD (nx x.2.2.2.1 x.2.2.2.2)))
theorem ok_next_side (T : Tx w K mg) : FnOk P w K mg base CX0 2 T.f_next_side T.d_next_side ["left", "side"] (spW K (W_next_side w)) := by
  refine fn_go T.F_next_side sc_next_side (fun ss A k h => ?_) (fun cdv A outer s H E hr => ?_)
  · obtain ⟨i, rfl, _⟩ := h; rfl
  · have hu : (A.deeper (PyProof.Rows.envOfC "next_side" (defScope s_next_side) s.heap.objs.size T.f_next_side cdv)).units + 65 < cLine := by have := hr.un; omega
    have hu1 := hu_of hr
    refine ⟨_, (pss_cons (ps_set (i := 2) sc_next_side.nd rfl (Or.inl rfl) (pe_kdgetK K w hu (pv 0) (pe_ix (ixK K) (pv 1) pe_int (fun _ _ => rfl)) (fun _ _ => rfl)))
      (pss_cons (ps_if (pt_cmpR (op_eqK K hu) (pe_callB (call_lenK K) (by rfl) T.n_len (by decide +kernel) (pa_cons (pv 2) pa_nil)) pe_int (nomark _))
        (pss_one (ps_ret (pe_ix (ixK K) (pv 2) pe_int (fun _ _ => rfl))))
        pss_nil)
      (pss_cons (ps_asg (pe_call (ok_going T) (hr.mono (by decide)) (by rfl) T.g_going T.F_going.kp T.b_going .nil pass0 (pa_cons (pv 1) pa_nil)) (pg_tupK K 2 rfl (pgs_cons (pg_name (i := 3) sc_next_side.nd rfl (Or.inl rfl)) (pgs_cons (pg_name (i := 4) sc_next_side.nd rfl (Or.inl rfl)) pgs_nil))))
      (pss_cons (ps_asg (pe_ix (ixK K) (pv 1) pe_int (fun _ _ => rfl)) (pg_tupK K 2 rfl (pgs_cons (pg_name (i := 5) sc_next_side.nd rfl (Or.inl rfl)) (pgs_cons (pg_name (i := 6) sc_next_side.nd rfl (Or.inl rfl)) pgs_nil))))
      (pss_one (ps_ret (pe_tup (pa_cons (pe_tup (pa_cons (pv 5) (pa_cons (pv 6) pa_nil))) (pa_cons (pe_tup (pa_cons (pe_op op_sub (pv 5) (pv 4)) (pa_cons (pe_op op_add (pv 6) (pv 3)) pa_nil))) pa_nil))))))))), ?_⟩
    rintro ss A k ⟨⟨p, q, kvs, cs, s⟩, rfl, hk⟩
    (try dsimp only [cxK] at hk); (try dsimp only [cxK])
    change Go _ _ _ [_, _, SV.no, SV.no, SV.no, SV.no, SV.no] _
    obtain ⟨hp, hlk, hq, hs, hn, hk⟩ := hk
    have hp : (p, .kd w kvs) ∈ A.cells := hp
    have hlk : lookS kvs (cK s.2) = some (.ptr q) := hlk
    have hq : (q, .lst (((atC (Sds cs) s.2).map sD).map .dat)) ∈ A.cells := hq
    have hs : Side cs s := hs
    have hn : cs.Nodup := hn
    have hk : k A (.dat (sD (nx cs s))) := hk
    walk_at "wp"
    refine ⟨p, kvs, cK s.2, _, rfl, cK_key _, hp, hlk, ?_⟩
    walk_at "wp"
    refine cw_lenP hq ?_
    rw [List.length_map, List.length_map]
    walk_at "wp"
    rw [eq_int]
    refine ⟨fun h1 => ?_, fun h1 => ?_⟩
    · have h1 : (atC (Sds cs) s.2).length = 1 := by have := of_decide_eq_true h1; omega
      rw [one_at hs h1] at hq
      walk_at "wp"
      refine rw_ixP hq (s := .dat (sD (nx cs s))) (atI_at (by decide) (by rfl)) ?_
      exact hk
    · have h1 : (atC (Sds cs) s.2).length ≠ 1 := by have := of_decide_eq_false h1; omega
      have e := more_at hn hs h1
      walk_at "wp"
      rw [e] at hk
      exact hk
def W_turned_at : List SV → Amb → KA → Prop := fun ss A k => ∃ x : Addr × List Sd × Sd × List Sd × List Sd × List Leg, ss = [.ptr x.1] ∧ (x.1, .lst ((x.2.1.map sD).map .dat)) ∈ A.cells ∧ x.2.1.length ≤ 1000 ∧ Told x.2.1 x.2.2.1 x.2.2.2.1 x.2.2.2.2.1 x.2.2.2.2.2 ∧ k A (.dat (.tuple ((x.2.2.1.1 :: (cornP x.2.2.1 x.2.2.2.2.1 ++ cornP (x.2.1.getLastD x.2.2.1) x.2.2.2.1)).map cD)))
theorem ok_turned_at (T : Tx w K mg) : FnOk P w K mg base CX0 2 T.f_turned_at T.d_turned_at ["some"] (spW K (W_turned_at)) := by
  refine fn_go T.F_turned_at sc_turned_at (fun ss A k h => ?_) (fun cdv A outer s H E hr => ?_)
  · obtain ⟨i, rfl, _⟩ := h; rfl
  · have hu : (A.deeper (PyProof.Rows.envOfC "turned_at" (defScope s_turned_at) s.heap.objs.size T.f_turned_at cdv)).units + 65 < cLine := by have := hr.un; omega
    have hu1 := hu_of hr
    refine ⟨_, (pss_cons (ps_setLc (i := 1) (own := [("at", 3)]) rfl sc_turned_at.nd rfl rfl (sw_true rfl rfl rfl (by decide +kernel)) (pi_range1 (by rfl) T.n_range (pa_cons (pe_callB (call_lenK K) (by rfl) T.n_len (by decide +kernel) (pa_cons (pv 0) pa_nil)) pa_nil)) (blkOk_by (own := [("at", 3)]) (N := NN_turned_at) (sc := (defScope s_turned_at)) (by decide +kernel)) (fun _ _ _ _ _ => (pg_name (i := 3) sc_turned_at.nd rfl (by first | exact Or.inl rfl | exact Or.inr rfl))) (fun _ _ _ _ _ => pts_one (pt_cmpR (op_neK K hu) (pe_call (ok_going T) (hr.mono (by decide)) (by rfl) T.g_going T.F_going.kp T.b_going .nil pass0 (pa_cons (pe_ix (ixK K) (pv 0) (pe_op op_sub (pv 3) pe_int) (fun _ _ => rfl)) pa_nil)) (pe_call (ok_going T) (hr.mono (by decide)) (by rfl) T.g_going T.F_going.kp T.b_going .nil pass0 (pa_cons (pe_ix (ixK K) (pv 0) (pv 3) (fun _ _ => rfl)) pa_nil)) (nomark _))) (fun _ _ _ _ _ => (pe_ix (ixK K) (pe_ix (ixK K) (pv 0) (pv 3) (fun _ _ => rfl)) pe_int (fun _ _ => rfl))))
      (pss_cons (ps_set (i := 2) sc_turned_at.nd rfl (Or.inl rfl) (pe_bmK K PySem.F.plainAttrs_list PySem.F.slot_list_index PySem.F.type_list_index (mt_indexDK K hu) (pv 1) (pa_cons (pe_callB (cr_minDK K rfl hu) (by rfl) T.n_min (by decide +kernel) (pa_cons (pv 1) pa_nil)) pa_nil)))
      (pss_one (ps_ret (pe_callTy (call_tupK K) (by rfl) T.n_tuple (by decide +kernel) (pa_cons (pe_op op_cat (pe_slice (sl_listK K) (pv 1) (po_some (pv 2)) po_none) (pe_slice (sl_listK K) (pv 1) po_none (po_some (pv 2)))) pa_nil)))))), ?_⟩
    rintro ss A k ⟨⟨p, r, s, u, v, L⟩, rfl, hk⟩
    (try dsimp only [cxK] at hk); (try dsimp only [cxK])
    change Go _ _ _ [_, SV.no, SV.no, SV.no] _
    obtain ⟨hp, hl, ht, hk⟩ := hk
    have hp : (p, .lst ((r.map sD).map .dat)) ∈ A.cells := hp
    have hl : r.length ≤ 1000 := hl
    have ht : Told r s u v L := ht
    walk_at "wp"
    refine wp_lcM (enc := fun i : Nat => PyData.int (0 + (i : Int))) (xs := List.range r.length) (by walk_at "to") (fun i => decide (going ((r.getLastD s :: r).getD i s) ≠ going (r.getD i s))) (fun i => cD (r.getD i s).1) (sz (by rw [List.length_range]; omega)) ?_
    refine iw_rng1 ?_
    walk_at "wp"
    refine cw_lenP hp ?_
    rw [List.length_map, List.length_map]
    walk_at "wp"
    refine ⟨by omega, by omega, by rw [Int.toNat_natCast, irange_enc], fun i hi => ?_, ?_⟩
    · have hi := List.mem_range.mp hi
      have b1 := at_before s hi
      have b2 := at_here s hi
      generalize (r.getLastD s :: r).getD i s = bf at b1 ⊢
      generalize r.getD i s = hr at b2 ⊢
      have s1 := cD_shaped (going bf)
      have s2 := cD_shaped (going hr)
      unfold LcItem
      walk_at "wp"
      refine rw_ixP hp b1 ?_
      walk_at "wp"
      refine rw_ixP hp b2 ?_
      walk_at "wp"
      refine ⟨by rw [eq_cell]; simp, fun _ => ?_, fun _ => rfl⟩
      walk_at "wp"
      refine rw_ixP hp b2 ?_
      walk_at "wp"
      exact ⟨rfl, rfl⟩
    have e0 : ((List.range r.length).filter fun i => decide (going ((r.getLastD s :: r).getD i s) ≠ going (r.getD i s))).map (fun i => cD (r.getD i s).1) = (cornP (r.getLastD s) r).map cD := by
      rw [← corn_range s r (r.getLastD s), List.map_map]
      rfl
    rw [e0, ht.corn]
    have hmin : ∀ y ∈ cornP (r.getLastD s) u ++ s.1 :: cornP s v, ltP y s.1 = false := fun y hy => by
      rw [← ht.corn] at hy
      obtain ⟨t, h1, rfl⟩ := mem_cornP hy
      exact ht.least t h1
    have hout := ht.out
    have hcl := cornP_len r (r.getLastD s)
    rw [ht.corn, List.length_append, List.length_cons] at hcl
    generalize cornP (r.getLastD s) u = as at hmin hout hcl hk ⊢
    generalize cornP s v = bs at hmin hcl hk ⊢
    have hal : (as ++ s.1 :: bs).length = as.length + (bs.length + 1) := by rw [List.length_append, List.length_cons]
    have h0 : ∀ m : Nat, m < as.length → (as ++ s.1 :: bs)[m]? ≠ some s.1 := fun m hm e => by
      rw [List.getElem?_append_left hm] at e
      exact hout (List.mem_of_getElem? e)
    have hat : (as ++ s.1 :: bs)[as.length]? = some s.1 := by rw [List.getElem?_append_right (Nat.le_refl _), Nat.sub_self]; rfl
    walk_at "wp"
    refine wp_indexD ?_
    walk_at "wp"
    refine cw_minC (List.mem_append_right _ List.mem_cons_self) hmin ?_
    refine ⟨cD s.1, cD s.1, as.length, rfl, (fun x hx => by
      obtain ⟨c, _, rfl⟩ := List.mem_map.mp hx
      exact cD_nd c), cD_nd _, cellsL_shaped _, cD_shaped _, by rw [List.getElem?_map, hat]; rfl, by rw [eq_cell]; simp, fun m z hm hz => ?_, ?_⟩
    · rw [List.getElem?_map] at hz
      obtain ⟨c, hc, rfl⟩ := Option.map_eq_some_iff.mp hz
      rw [eq_cell]
      exact decide_eq_false fun e => h0 m hm (by rw [hc, e])
    walk_at "wp"
    refine sw_list ?_
    rw [cut_drop (by omega) (by rw [List.length_map]; omega), Int.toNat_natCast, ← List.map_drop, List.drop_left]
    walk_at "wp"
    refine sw_list ?_
    rw [cut_take (by omega) (by rw [List.length_map]; omega), Int.toNat_natCast, ← List.map_take, List.take_left]
    walk_at "wp"
    refine rw_cat (sz (by rw [List.length_map, List.length_map, List.length_cons]; omega)) ?_
    rw [← List.map_append]
    walk_at "wp"
    refine cw_tupD (.inl rfl) ?_
    exact hk
def W_rings : World → List SV → Amb → KA → Prop := fun w ss A k => ∃ cs : List Cl, ss = [.dat (ctD cs)] ∧ cs.Nodup ∧ cs.length ≤ 49 ∧ ∀ q rs, Out (Sds cs) (nx cs) (Sds cs).length rs → k (A.add q (.lst ((dsort ((rs.map tk).map ctD)).map .dat))) (.ptr q)
theorem ok_rings (T : Tx w K mg) : FnOk P w K mg base CX0 5 T.f_rings T.d_rings ["cells"] (spW K (W_rings w)) := by
  refine fn_go T.F_rings sc_rings (fun ss A k h => ?_) (fun cdv A outer s H E hr => ?_)
  · obtain ⟨i, rfl, _⟩ := h; rfl
  · have hu : (A.deeper (PyProof.Rows.envOfC "rings" (defScope s_rings) s.heap.objs.size T.f_rings cdv)).units + 65 < cLine := by have := hr.un; omega
    have hu1 := hu_of hr
    refine ⟨_, (pss_cons (ps_par3 (i := 1) (j := 2) (l := 3) rfl sc_rings.nd rfl rfl rfl (by decide) (by decide) (by decide) rfl rfl rfl (pa_cons (pe_call (ok_sides T) (hr.mono (by decide)) (by rfl) T.g_sides T.F_sides.kp T.b_sides .nil pass0 (pa_cons (pv 0) pa_nil)) (pa_cons (pe_kdnewK w) (pa_cons (pe_lst pa_nil) pa_nil))) (by rfl))
      (pss_cons (ps_for PassesOwn.never rfl (pi_listK K (pv 1)) (pg_name (i := 4) sc_rings.nd rfl (Or.inl rfl))
        (pss_one (ps_expr (pe_bmK K PySem.F.plainAttrs_list PySem.F.slot_list_append PySem.F.type_list_append mt_append (pe_kdsetdK K w hu (pv 2) (pe_ix (ixK K) (pv 4) pe_int (fun _ _ => rfl)) (pe_lst pa_nil) ⟨rfl, rfl, rfl, rfl⟩) (pa_cons (pv 4) pa_nil)))))
      (pss_cons (ps_set (i := 5) sc_rings.nd rfl (Or.inl rfl) (pe_kdnewK w))
      (pss_cons (ps_for PassesOwn.never rfl (pi_listK K (pv 1)) (pg_name (i := 4) sc_rings.nd rfl (Or.inl rfl))
        (pss_cons (ps_set (i := 6) sc_rings.nd rfl (Or.inl rfl) (pe_lst pa_nil))
          (pss_cons (ps_while PassesOwn.never (pt_cmp (pc_kdniK K w hu (pv 4) (pv 5)))
            (pss_cons (ps_kdputK K w hu (pv 5) (pv 4) pe_bl rfl)
              (pss_cons (ps_expr (pe_bmK K PySem.F.plainAttrs_list PySem.F.slot_list_append PySem.F.type_list_append mt_append (pv 6) (pa_cons (pv 4) pa_nil)))
              (pss_one (ps_set (i := 4) sc_rings.nd rfl (Or.inl rfl) (pe_call (ok_next_side T) (hr.mono (by decide)) (by rfl) T.g_next_side T.F_next_side.kp T.b_next_side .nil pass0 (pa_cons (pv 2) (pa_cons (pv 4) pa_nil))))))))
          (pss_one (ps_if (pt_cmpR (op_neK K hu) (pv 6) (pe_lst pa_nil) (nomark _))
            (pss_one (ps_expr (pe_bmK K PySem.F.plainAttrs_list PySem.F.slot_list_append PySem.F.type_list_append mt_append (pv 3) (pa_cons (pe_call (ok_turned_at T) (hr.mono (by decide)) (by rfl) T.g_turned_at T.F_turned_at.kp T.b_turned_at .nil pass0 (pa_cons (pv 6) pa_nil)) pa_nil))))
            pss_nil)))))
      (pss_one (ps_ret (pe_callB (cr_sortK K hu) (by rfl) T.n_sorted (by decide +kernel) (pa_cons (pv 3) pa_nil)))))))), ?_⟩
    rintro ss A k ⟨i, rfl, hk⟩
    (try dsimp only [cxK] at hk); (try dsimp only [cxK])
    change Go _ _ _ [_, SV.no, SV.no, SV.no, SV.no, SV.no, SV.no] _
    obtain ⟨hn, hl, hk⟩ := hk
    obtain ⟨I, l⟩ := A
    have hS := S_len hl
    refine go_seq ?_
    refine go_par3 ?_
    refine wpa_cons ?_
    walk_at "wp"
    refine ⟨by omega, fun q => ?_⟩
    walk_at "wp"
    intro bc
    refine wpa_cons ?_
    refine wp_lstO ?_
    walk_at "wp1"
    refine ⟨Nat.zero_le _, fun fo => ?_⟩
    walk_at "wp"
    refine ⟨_, _, _, rfl, ?_⟩
    refine go_frz (i := 1) (p := q) rfl (by walk_at "rem") ?_
    rw [← S_data i]
    refine go_seq ?_
    refine go_forM (enc := sD) (xs := Sds i) ?_
    refine iw_list ?_
    walk_at "wp"
    refine ⟨rfl, fun j A1 S1 => ∃ G U ts x, U = (Sds i).take j ∧ (ts.map (·.1)).Nodup ∧ Has U ts ∧ ts.length ≤ j ∧ A1 = ⟨I, G ++ (CL U ts ++ (fo, .lst []) :: (bc, .kd w (CK ts)) :: l)⟩ ∧ S1 = [.dat (ctD i), .dat (.list ((Sds i).map sD)), .ptr bc, .ptr fo, x, .no, .no], ⟨[], [], [], _, rfl, List.nodup_nil, fun c => by simp, Nat.le_refl _, rfl, rfl⟩, ?_, ?_⟩
    · rintro j s A1 S1 hs ⟨G, U, ts, x, hU, nd, has, hlt, rfl, rfl⟩
      have hj := (List.getElem?_eq_some_iff.mp hs).1
      have htk : (Sds i).take (j + 1) = U ++ [s] := by rw [List.take_add_one, hs, hU]; rfl
      have hUl : U.length ≤ 196 := by rw [hU, List.length_take]; omega
      have hbc : (bc, Cell.kd w (CK ts)) ∈ CL U ts ++ (fo, .lst []) :: (bc, .kd w (CK ts)) :: l := List.mem_append_right _ (List.mem_cons_of_mem _ List.mem_cons_self)
      have hkl : (CK ts).length ≤ 196 := by unfold CK; rw [List.length_map, List.length_reverse]; omega
      have hal : ∀ c, (atC U c).length ≤ 196 := fun c => Nat.le_trans (List.length_filter_le _ _) hUl
      refine gw_name ?_
      refine go_trim ?_
      refine go_drop ?_
      refine wp_append ?_
      refine wp_kdsetd ?_
      walk_at "wp"
      refine ⟨bc, CK ts, rfl, hbc, ?_⟩
      refine wp_op ?_
      walk_at "wp1"
      walk_at "wp1"
      walk_at "wp1"
      refine wp_lstO ?_
      walk_at "wp1"
      refine ⟨Nat.zero_le _, fun ne => ?_⟩
      refine ⟨CK ts, cK s.1, cK_key _, List.mem_cons_of_mem _ hbc, szl (by omega), fun v hv => ?_, fun hv => ?_⟩
      · obtain ⟨p, hp, rfl⟩ := CK_look.1 v hv
        refine ⟨p, _, rfl, List.mem_cons_of_mem _ (CL_mem hp), ?_⟩
        walk_at "wp"
        refine ⟨_, _, .tail (CL_upd nd hp), by rw [List.length_map, List.length_map]; exact szl (by have := hal s.1; omega), ?_⟩
        exact ⟨[(ne, .lst [])], _, ts, _, htk.symm, nd, has.same (List.mem_map.mpr ⟨_, hp, rfl⟩), by omega, rfl, rfl⟩
      · have hns := CK_look.2 hv
        have hu : ∀ M : List (Addr × Cell), Upd (M ++ (fo, Cell.lst []) :: (bc, .kd w (CK ts)) :: l) bc (.kd w (CK ts)) (.kd w (CK ((s.1, ne) :: ts))) (M ++ (fo, .lst []) :: (bc, .kd w (CK ((s.1, ne) :: ts))) :: l) := by
          intro M
          induction M with
          | nil => exact .tail .head
          | cons x M ih => exact .tail ih
        refine ⟨_, by rw [CK_new hns]; exact .tail (hu _), ne, [], rfl, List.mem_cons_self, ?_⟩
        walk_at "wp"
        refine ⟨_, _, .head, by decide, ?_⟩
        refine ⟨[], _, (s.1, ne) :: ts, _, htk.symm, by rw [List.map_cons, List.nodup_cons]; exact ⟨hns, nd⟩, has.new, by rw [List.length_cons]; omega, ?_, rfl⟩
        rw [← CL_new has hns]
        rfl
    · rintro A1 S1 ⟨G, U, ts, x, hU, nd, has, hlt, rfl, rfl⟩
      rw [List.take_length] at hU
      subst hU
      refine go_trim ?_
      refine go_seq ?_
      refine go_set ?_
      refine wp_kdnew fun go => ?_
      refine go_seq ?_
      have hT := S_turns i
      have hkl : (bc, Cell.kd w (CK ts)) ∈ (bc, Cell.kd w (CK ts)) :: l := List.mem_cons_self
      refine go_forM (enc := sD) (xs := Sds i) ?_
      refine iw_list ?_
      walk_at "wp"
      refine ⟨rfl, fun j A1 S1 => ∃ G rs x y, Out (Sds i) (nx i) j rs ∧ A1 = ⟨I, G ++ (go, .kd w (vK sK (fun _ => .dat (.bool true)) rs.flatten)) :: (CL (Sds i) ts ++ (fo, .lst (((rs.map tk).map ctD).map .dat)) :: (bc, .kd w (CK ts)) :: l)⟩ ∧ S1 = [.dat (ctD i), .dat (.list ((Sds i).map sD)), .ptr bc, .ptr fo, x, .ptr go, y], ⟨[], [], _, _, .zero, rfl, rfl⟩, ?_, ?_⟩
      · rintro j s A1 S1 hs ⟨G, rs, x, y, ho, rfl, rfl⟩
        have hsS := List.mem_of_getElem? hs
        obtain ⟨hfl, hrl⟩ := out_small hT hS ho
        refine gw_name ?_
        refine go_trim ?_
        refine go_seq ?_
        refine go_set ?_
        refine wp_lstO ?_
        walk_at "wp1"
        refine ⟨Nat.zero_le _, fun so => ?_⟩
        refine go_seq ?_
        generalize hB : CL (Sds i) ts ++ (fo, Cell.lst (((rs.map tk).map ctD).map .dat)) :: (bc, .kd w (CK ts)) :: l = B
        have hbB : (bc, Cell.kd w (CK ts)) ∈ B := by rw [← hB]; exact List.mem_append_right _ (List.mem_cons_of_mem _ List.mem_cons_self)
        have hcB : ∀ c p, (c, p) ∈ ts → (p, Cell.lst (((atC (Sds i) c).map sD).map .dat)) ∈ B := fun c p h => by rw [← hB]; exact CL_mem h
        have hfB : (fo, Cell.lst (((rs.map tk).map ctD).map .dat)) ∈ B := by rw [← hB]; exact List.mem_append_right _ List.mem_cons_self
        have huB : ∀ c', Upd B fo (Cell.lst (((rs.map tk).map ctD).map .dat)) c' (CL (Sds i) ts ++ (fo, c') :: (bc, .kd w (CK ts)) :: l) := fun c' => by rw [← hB]; exact upd_mid _
        refine go_cut (fun A1 S1 => ∃ k, Walk (Sds i) (nx i) rs s k ∧ (k = 0 ∨ s ∉ rs.flatten) ∧ pw (nx i) k s ∈ rs.flatten ++ itr (nx i) s k ∧ A1 = ⟨I, (so, .lst (((itr (nx i) s k).map sD).map .dat)) :: (go, .kd w (vK sK (fun _ => .dat (.bool true)) (rs.flatten ++ itr (nx i) s k))) :: B⟩ ∧ S1 = [.dat (ctD i), .dat (.list ((Sds i).map sD)), .ptr bc, .ptr fo, .dat (sD (pw (nx i) k s)), .ptr go, .ptr so]) ?_ ?_
        · refine go_while (fun m A1 S1 => ∃ k, m = (Sds i).length + 1 - k ∧ Walk (Sds i) (nx i) rs s k ∧ (k = 0 ∨ s ∉ rs.flatten) ∧ A1 = ⟨I, (so, .lst (((itr (nx i) s k).map sD).map .dat)) :: (go, .kd w (vK sK (fun _ => .dat (.bool true)) (rs.flatten ++ itr (nx i) s k))) :: B⟩ ∧ S1 = [.dat (ctD i), .dat (.list ((Sds i).map sD)), .ptr bc, .ptr fo, .dat (sD (pw (nx i) k s)), .ptr go, .ptr so]) ⟨_, 0, rfl, Walk.start, .inl rfl, by simp [itr], rfl⟩ ?_
          rintro m A1 S1 ⟨k, rfl, hw, h0, rfl, rfl⟩
          walk_at "wp"
          refine ⟨go, _, sK (pw (nx i) k s), rfl, sK_key _, by walk_at "cell", ?_⟩
          by_cases h1 : pw (nx i) k s ∈ rs.flatten ++ itr (nx i) s k
          · rw [vK_look sK_inj h1]
            exact ⟨_, rfl, fun e => Bool.noConfusion (show false = true from e), fun _ => ⟨k, hw, h0, h1, rfl, rfl⟩⟩
          rw [vK_out sK_inj h1]
          refine ⟨_, rfl, fun _ => ?_, fun e => Bool.noConfusion (show true = false from e)⟩
          have hw2 := hw.go h1
          have hlen := hw2.len hT hsS
          refine go_seq ?_
          walk_at "wp"
          refine ⟨go, _, sK (pw (nx i) k s), _, rfl, sK_key _, .tail .head, by unfold vK; rw [List.length_map, List.length_append, itr_len]; exact szl (by omega), ?_⟩
          rw [vK_new sK_inj h1 rfl, List.append_assoc, ← itr_succ]
          refine go_seq ?_
          refine go_drop ?_
          refine wp_append ?_
          walk_at "wp"
          refine ⟨so, _, rfl, by walk_at "cell", ?_⟩
          walk_at "wp"
          refine ⟨_, _, by walk_at "upd", by rw [List.length_map, List.length_map, itr_len]; exact szl (by omega), ?_⟩
          have e8 : ((itr (nx i) s (k + 1)).map sD).map SV.dat = ((itr (nx i) s k).map sD).map .dat ++ [.dat (sD (pw (nx i) k s))] := by rw [itr_succ, List.map_append, List.map_append]; rfl
          rw [← e8]
          obtain ⟨p, hp1, hp2⟩ := CK_get has nd (hT.pw hsS (k + 1))
          have e7 : (pw (nx i) (k + 1) s).1 = (pw (nx i) k s).2 := nx_first _
          rw [e7] at hp1 hp2
          walk_at "wp"
          refine ⟨(bc, p, CK ts, i, pw (nx i) k s), rfl, List.mem_cons_of_mem _ (List.mem_cons_of_mem _ hbB), hp1, List.mem_cons_of_mem _ (List.mem_cons_of_mem _ (hcB _ _ hp2)), S_mem.mp (hT.pw hsS k), hn, ?_⟩
          walk_at "wp"
          exact ⟨_, by omega, k + 1, rfl, hw2, .inr (hw2.out s (mem_itr.mpr ⟨0, by omega, rfl⟩)), rfl, rfl⟩
        · rintro A1 S1 ⟨k, hw, h0, hm, rfl, rfl⟩
          have sl := sdsL_shaped (itr (nx i) s k)
          have hlen := hw.len hT hsS
          walk_at "wp"
          refine rw_neP List.mem_cons_self sl (by walk_at "sh") ?_
          have e : PyData.eqv (.list ((itr (nx i) s k).map sD)) (.list []) = decide (itr (nx i) s k = []) := eq_sides _ []
          rw [e]
          walk_at "wp"
          refine ⟨fun h1 => ?_, fun h1 => ?_⟩
          · have h1 : itr (nx i) s k ≠ [] := by simpa using h1
            have hk0 : k ≠ 0 := fun z => h1 (by rw [z]; rfl)
            have hns : s ∉ rs.flatten := h0.resolve_left hk0
            obtain ⟨hkp, ho2⟩ := Walk.stop hT ho hs hns hw hm
            have hr := ho2.rings (itr (nx i) s k) (List.mem_append_right _ List.mem_cons_self)
            obtain ⟨s', u, v, L, ht, et⟩ := tk_spec (ring_told hr fun x hx => S_mem.mp (ho2.sub hT x (List.mem_flatten.mpr ⟨_, List.mem_append_right _ List.mem_cons_self, hx⟩)))
            refine go_drop ?_
            refine wp_append ?_
            walk_at "wp"
            refine ⟨fo, _, rfl, List.mem_cons_of_mem _ (List.mem_cons_of_mem _ hfB), ?_⟩
            walk_at "wp"
            refine ⟨(so, itr (nx i) s k, s', u, v, L), rfl, List.mem_cons_self, by rw [itr_len]; omega, ht, ?_⟩
            rw [← et]
            walk_at "wp"
            refine ⟨_, _, .tail (.tail (huB _)), by rw [List.length_map, List.length_map, List.length_map]; exact szl (by omega), ?_⟩
            exact ⟨[(so, .lst (((itr (nx i) s k).map sD).map .dat))], _, _, _, ho2, by simp, rfl⟩
          · have h1 : itr (nx i) s k = [] := by simpa using h1
            have hk0 : k = 0 := by rw [← itr_len (nx i) s k, h1]; rfl
            subst hk0
            walk_at "wp"
            have hm2 : s ∈ rs.flatten ++ itr (nx i) s 0 := hm
            exact ⟨[(so, .lst [])], _, _, _, .skip ho hs (by simpa [itr] using hm2), by rw [← hB]; simp [itr], rfl⟩
      · rintro A1 S1 ⟨G, rs, x, y, ho, rfl, rfl⟩
        have eA : G ++ (go, Cell.kd w (vK sK (fun _ => .dat (.bool true)) rs.flatten)) :: (CL (Sds i) ts ++ (fo, .lst (((rs.map tk).map ctD).map .dat)) :: (bc, .kd w (CK ts)) :: l) = (G ++ (go, Cell.kd w (vK sK (fun _ => .dat (.bool true)) rs.flatten)) :: CL (Sds i) ts) ++ (fo, .lst (((rs.map tk).map ctD).map .dat)) :: (bc, .kd w (CK ts)) :: l := by simp
        rw [eA]
        refine go_trim ?_
        refine go_loss (.tail .head) ?_
        refine go_ret (wp_drop ?_)
        walk_at "wp"
        refine cw_sortP List.mem_cons_self ?_ ?_ ?_ fun p => ⟨fo, _, _, .tail .head, hk p rs ho⟩
        · exact pieces_alike _
        · refine pieces_sort fun p hp => ?_
          obtain ⟨r, hr, rfl⟩ := List.mem_map.mp hp
          exact tk_ne (ring_told (ho.rings r hr) fun x hx => S_mem.mp (ho.sub hT x (List.mem_flatten.mpr ⟨r, hr, hx⟩)))
        · exact pieces_depth _
def W_round_of : List SV → Amb → KA → Prop := fun ss A k => ∃ c : Cl, ss = [.dat (cD c)] ∧ k A (.dat (.list ((nextTo c).map cD)))
theorem ok_round_of (T : Tx w K mg) : FnOk P w K mg base CX0 1 T.f_round_of T.d_round_of ["cell"] (spW K (W_round_of)) := by
  refine fn_go T.F_round_of sc_round_of (fun ss A k h => ?_) (fun cdv A outer s H E hr => ?_)
  · obtain ⟨i, rfl, _⟩ := h; rfl
  · have hu : (A.deeper (PyProof.Rows.envOfC "round_of" (defScope s_round_of) s.heap.objs.size T.f_round_of cdv)).units + 65 < cLine := by have := hr.un; omega
    have hu1 := hu_of hr
    refine ⟨_, (pss_cons (ps_asg (pv 0) (pg_tupK K 2 rfl (pgs_cons (pg_name (i := 1) sc_round_of.nd rfl (Or.inl rfl)) (pgs_cons (pg_name (i := 2) sc_round_of.nd rfl (Or.inl rfl)) pgs_nil))))
      (pss_one (ps_ret (pe_lst (pa_cons (pe_tup (pa_cons (pe_op op_sub (pv 1) pe_int) (pa_cons (pv 2) pa_nil))) (pa_cons (pe_tup (pa_cons (pe_op op_add (pv 1) pe_int) (pa_cons (pv 2) pa_nil))) (pa_cons (pe_tup (pa_cons (pv 1) (pa_cons (pe_op op_sub (pv 2) pe_int) pa_nil))) (pa_cons (pe_tup (pa_cons (pv 1) (pa_cons (pe_op op_add (pv 2) pe_int) pa_nil))) pa_nil)))))))), ?_⟩
    rintro ss A k ⟨i, rfl, hk⟩
    (try dsimp only [cxK] at hk); (try dsimp only [cxK])
    change Go _ _ _ [_, SV.no, SV.no] _
    walk_at "go"
    exact hk
def W_piece_of : List SV → Amb → KA → Prop := fun ss A k => ∃ x : List Cl × Cl, ss = [.dat (.tuple (x.1.map cD)), .dat (cD x.2)] ∧ RisC x.1 ∧ x.1.length ≤ 100 ∧ x.2 ∈ x.1 ∧ k A (.dat (ctD (comp x.1 x.2)))
theorem ok_piece_of (T : Tx w K mg) : FnOk P w K mg base CX0 2 T.f_piece_of T.d_piece_of ["cells", "first"] (spW K (W_piece_of)) := by
  refine fn_go T.F_piece_of sc_piece_of (fun ss A k h => ?_) (fun cdv A outer s H E hr => ?_)
  · obtain ⟨i, rfl, _⟩ := h; rfl
  · have hu : (A.deeper (PyProof.Rows.envOfC "piece_of" (defScope s_piece_of) s.heap.objs.size T.f_piece_of cdv)).units + 65 < cLine := by have := hr.un; omega
    have hu1 := hu_of hr
    refine ⟨_, (pss_cons (ps_par (i := 2) (j := 3) rfl sc_piece_of.nd rfl rfl (by decide) rfl rfl (pa_cons (pe_kddispK K w hu (pps_cons (pv 1) pe_bl pps_nil) (by rfl) (by rfl) (fun z => by cases z) (by decide)) (pa_cons (pe_lst (pa_cons (pv 1) pa_nil)) pa_nil)) (by rfl))
      (pss_cons (ps_while PassesOwn.never (pt_cmpR (op_neK K hu) (pv 3) (pe_lst pa_nil) (nomark _))
        (pss_one (ps_for PassesOwn.never rfl (pi_listK K (pe_call (ok_round_of T) (hr.mono (by decide)) (by rfl) T.g_round_of T.F_round_of.kp T.b_round_of .nil pass0 (pa_cons (pe_bm0 PySem.F.plainAttrs_list PySem.F.slot_list_pop PySem.F.type_list_pop mt_pop (pv 3)) pa_nil))) (pg_name (i := 4) sc_piece_of.nd rfl (Or.inl rfl))
            (pss_one (ps_if (PW.pt (pw_and (pt_cmpR (op_inK K hu) (pv 4) (pv 0) rfl) (pw_and1 (pt_cmp (pc_kdniK K w hu (pv 4) (pv 2))))))
                (pss_cons (ps_kdputK K w hu (pv 2) (pv 4) pe_bl rfl)
                  (pss_one (ps_expr (pe_bmK K PySem.F.plainAttrs_list PySem.F.slot_list_append PySem.F.type_list_append mt_append (pv 3) (pa_cons (pv 4) pa_nil)))))
                pss_nil)))))
      (pss_one (ps_ret (pe_callTy (call_tupK K) (by rfl) T.n_tuple (by decide +kernel) (pa_cons (pe_callB (cr_sortKdK K w rfl hu) (by rfl) T.n_sorted (by decide +kernel) (pa_cons (pv 2) pa_nil)) pa_nil)))))), ?_⟩
    rintro ss A k ⟨⟨cs, f⟩, rfl, hk⟩
    (try dsimp only [cxK] at hk); (try dsimp only [cxK])
    change Go _ _ _ [_, _, SV.no, SV.no, SV.no] _
    obtain ⟨hr, hl, hf, hk⟩ := hk
    have hr : RisC cs := hr
    have hl : cs.length ≤ 100 := hl
    have hf : f ∈ cs := hf
    have hk : k A (.dat (ctD (comp cs f))) := hk
    obtain ⟨I, l⟩ := A
    refine go_seq ?_
    refine go_par ?_
    refine wpa_cons ?_
    refine wp_kddisp ?_
    walk_at "wp"
    refine ⟨[(cellK f, .dat (.bool true))], .cons ⟨cellK_key f, rfl⟩ .nil, by simp, fun p => ?_⟩
    refine wpa_cons ?_
    refine wp_lstO ?_
    walk_at "wp"
    refine ⟨sz64 rfl, fun q => ?_⟩
    walk_at "wp"
    refine go_while (fun m A1 S1 => ∃ fk ws, FInv cs f fk ws ∧ m = 2 * (cs.length - fk.length) + ws.length ∧ A1 = ⟨I, (q, .lst ((ws.map cD).map .dat)) :: (p, .kd w (valK trueV fk)) :: l⟩ ∧ ∃ x4, S1 = [.dat (.tuple (cs.map cD)), .dat (cD f), .ptr p, .ptr q, x4]) ⟨_, [f], [f], .start hf, rfl, rfl, _, rfl⟩ ?_
    rintro m A1 S1 ⟨fk, ws, hi, rfl, rfl, x4, rfl⟩
    walk_at "wp"
    refine rw_neP List.mem_cons_self (cellsL_shaped ws) (by walk_at "sh") ?_
    rw [eqv_nilC]
    walk_at "wp"
    rcases List.eq_nil_or_concat ws with rfl | ⟨ws, c, rfl⟩
    · refine ⟨fun h => by simp at h, fun _ => ?_⟩
      refine go_ret (wp_drop (wp_drop ?_))
      walk_at "go"
      refine cw_frz (cw_sortKd (by walk_at "cell") ?_ ?_ fun z => ?_)
      · rw [val_keys]; exact cells_alike fk
      · rw [val_keys]; exact cells_sort fk
      refine ⟨z, _, _, rfl, .head, ?_⟩
      walk_at "go"
      refine cw_tupD (.inl rfl) ?_
      rw [val_keys, dsort_risC (comp_ris hr f) (hi.perm hr)]
      exact ⟨q, _, _, .head, p, _, _, .head, hk⟩
    rw [List.concat_eq_append] at hi ⊢
    refine ⟨fun _ => ?_, fun h => by simp at h⟩
    have hm := hi.pop
    have eM : 2 * (cs.length - fk.length) + (ws ++ [c]).length = 2 * (cs.length - fk.length) + ws.length + 1 := by rw [List.length_append]; rfl
    rw [eM]
    have hM : 2 * (cs.length - fk.length) + ws.length ≤ 2 * cs.length + 1 := by have := hi.mb; rw [List.length_append] at this; omega
    generalize 2 * (cs.length - fk.length) + ws.length = M at hm hM
    refine go_forM (enc := cD) (xs := nextTo c) ?_
    refine iw_list ?_
    walk_at "wp"
    refine wp_pop ?_
    walk_at "wp"
    refine ⟨q, _, .dat (cD c), _, rfl, .head, by simp, ?_⟩
    have eD : ((((ws ++ [c]).map cD).map SV.dat)).dropLast = (ws.map cD).map .dat := by simp
    rw [eD]
    walk_at "wp"
    refine ⟨rfl, fun j A1 S1 => ∃ fk ws, FMid cs f c M j fk ws ∧ A1 = ⟨I, (q, .lst ((ws.map cD).map .dat)) :: (p, .kd w (valK trueV fk)) :: l⟩ ∧ ∃ x4, S1 = [.dat (.tuple (cs.map cD)), .dat (cD f), .ptr p, .ptr q, x4], ⟨fk, ws, hm, rfl, _, rfl⟩, ?_, ?_⟩
    rotate_left
    · rintro A1 S1 ⟨fk2, ws2, hm2, rfl, x4, rfl⟩
      exact ⟨_, Nat.lt_succ_of_le hm2.meas, fk2, ws2, hm2.done hM, rfl, rfl, _, rfl⟩
    rintro j d A1 S1 hj ⟨fk, ws, hm, rfl, x4, rfl⟩
    have hfl : fk.length ≤ 100 := Nat.le_trans (clen hm.nd fun x hx => (hm.reach x hx).mem) hl
    have hwl : ws.length ≤ 300 := by have := hm.meas; omega
    walk_at "go"
    refine rw_inT (cD_shaped d) (cells_shaped cs) ?_
    rw [in_cells]
    walk_at "wp"
    refine ⟨fun h1 => ?_, fun h1 => ?_⟩
    rotate_left
    · have h1 : d ∉ cs := of_decide_eq_false h1
      walk_at "go"
      exact ⟨fk, ws, hm.stay hj fun z => absurd z h1, rfl, _, rfl⟩
    have h1 : d ∈ cs := of_decide_eq_true h1
    walk_at "go"
    refine ⟨p, _, cellK d, rfl, cellK_key d, by walk_at "cell", ?_⟩
    rw [look_is]
    walk_at "wp"
    refine ⟨fun h2 => ?_, fun h2 => ?_⟩
    rotate_left
    · have h2 : d ∈ fk := by simpa using h2
      walk_at "go"
      exact ⟨fk, ws, hm.stay hj fun _ => h2, rfl, _, rfl⟩
    have h2 : d ∉ fk := by simpa using h2
    walk_at "go"
    refine ⟨p, _, cellK d, _, rfl, cellK_key d, by walk_at "upd", by rw [val_len]; exact szl (by omega), ?_⟩
    rw [put_new (f := trueV) (v := .dat (.bool true)) h2 rfl]
    walk_at "go"
    refine wp_append ?_
    walk_at "go"
    refine ⟨q, _, rfl, List.mem_cons_self, ?_⟩
    walk_at "go"
    refine ⟨_, _, .head, by rw [List.length_map, List.length_map]; exact szl (by omega), fk ++ [d], ws ++ [d], hm.more hj h1 h2, ?_, _, rfl⟩
    simp
def W_pieces : List SV → Amb → KA → Prop := fun ss A k => ∃ cs : List Cl, ss = [.dat (.tuple (cs.map cD))] ∧ RisC cs ∧ cs.length ≤ 100 ∧ ∀ ps, PiecesOf cs ps → ps.length ≤ 100 → ∀ q, k (A.add q (.lst ((dsort (ps.map ctD)).map .dat))) (.ptr q)
theorem ok_pieces (T : Tx w K mg) : FnOk P w K mg base CX0 3 T.f_pieces T.d_pieces ["cells"] (spW K (W_pieces)) := by
  refine fn_go T.F_pieces sc_pieces (fun ss A k h => ?_) (fun cdv A outer s H E hr => ?_)
  · obtain ⟨i, rfl, _⟩ := h; rfl
  · have hu : (A.deeper (PyProof.Rows.envOfC "pieces" (defScope s_pieces) s.heap.objs.size T.f_pieces cdv)).units + 65 < cLine := by have := hr.un; omega
    have hu1 := hu_of hr
    refine ⟨_, (pss_cons (ps_par (i := 1) (j := 2) rfl sc_pieces.nd rfl rfl (by decide) rfl rfl (pa_cons (pe_lst pa_nil) (pa_cons (pe_callTy (call_listK K) (by rfl) T.n_list (by decide +kernel) (pa_cons (pv 0) pa_nil)) pa_nil)) (by rfl))
      (pss_cons (ps_while PassesOwn.never (pt_cmpR (op_neK K hu) (pv 2) (pe_lst pa_nil) (nomark _))
        (pss_cons (ps_set (i := 3) sc_pieces.nd rfl (Or.inr rfl) (pe_call (ok_piece_of T) (hr.mono (by decide)) (by rfl) T.g_piece_of T.F_piece_of.kp T.b_piece_of .nil pass0 (pa_cons (pv 0) (pa_cons (pe_ix (ixK K) (pv 2) pe_int (fun _ _ => rfl)) pa_nil))))
          (pss_cons (ps_expr (pe_bmK K PySem.F.plainAttrs_list PySem.F.slot_list_append PySem.F.type_list_append mt_append (pv 1) (pa_cons (pv 3) pa_nil)))
          (pss_one (ps_setLc (i := 2) (own := [("cell", 4)]) rfl sc_pieces.nd rfl rfl (sw_true rfl rfl rfl (by decide +kernel)) (pi_listK K (pv 2)) (blkOk_by (own := [("cell", 4)]) (N := NN_pieces) (sc := (defScope s_pieces)) (by decide +kernel)) (fun _ _ _ _ _ => (pg_name (i := 4) sc_pieces.nd rfl (by first | exact Or.inl rfl | exact Or.inr rfl))) (fun _ _ _ _ _ => pts_one (pt_cmpR (op_niK K hu) (pv 4) (pv 3) rfl)) (fun _ _ _ _ _ => (pv 4)))))))
      (pss_one (ps_ret (pe_callB (cr_sortK K hu) (by rfl) T.n_sorted (by decide +kernel) (pa_cons (pv 1) pa_nil)))))), ?_⟩
    rintro ss A k ⟨cs, rfl, hk⟩
    (try dsimp only [cxK] at hk); (try dsimp only [cxK])
    change Go _ _ _ [_, SV.no, SV.no, SV.no, SV.no] _
    obtain ⟨hr, hl, hk⟩ := hk
    obtain ⟨I, l⟩ := A
    refine go_seq ?_
    refine go_par ?_
    refine wpa_cons ?_
    refine wp_lstO ?_
    walk_at "wp1"
    refine ⟨Nat.zero_le _, fun q => ?_⟩
    walk_at "wp"
    refine cw_frz (cw_listD (.inr rfl) fun z => ⟨z, _, _, rfl, .head, ?_⟩)
    walk_at "wp"
    refine go_while (fun m A1 S1 => ∃ ps ls, PInv cs ps ls ∧ m = ls.length ∧ A1 = ⟨I, (q, .lst ((ps.map ctD).map .dat)) :: l⟩ ∧ ∃ x3 x4, S1 = [.dat (.tuple (cs.map cD)), .ptr q, .dat (.list (ls.map cD)), x3, x4]) ⟨_, [], cs, .start cs, rfl, rfl, _, _, rfl⟩ ?_
    rintro m A1 S1 ⟨ps, ls, hi, rfl, rfl, x3, x4, rfl⟩
    have hil := hi.len
    walk_at "wp"
    refine rw_neD (cellsL_shaped ls) (by walk_at "sh") ?_
    rw [eqv_nilC]
    walk_at "wp"
    cases ls with
    | nil =>
      refine ⟨fun h => by simp at h, fun _ => ?_⟩
      have hd := hi.done
      refine go_ret (wp_drop ?_)
      walk_at "go"
      exact cw_sortP (by walk_at "cell") (pieces_alike ps) (pieces_sort hd.ne) (pieces_depth ps) fun z => ⟨q, _, _, .tail .head, hk ps hd (by omega) z⟩
    | cons c ls =>
      refine ⟨fun _ => ?_, fun h => by simp at h⟩
      obtain ⟨hc, hs, hlt⟩ := hi.step
      rw [List.length_cons] at hil
      walk_at "wp"
      refine rw_ixL (d := cD c) (atI_at (by decide) (by rfl)) ?_
      walk_at "wp"
      refine ⟨(cs, c), rfl, hr, hl, hc, ?_⟩
      walk_at "wp"
      refine wp_append ?_
      walk_at "wp"
      refine ⟨q, _, rfl, List.mem_cons_self, ?_⟩
      walk_at "wp"
      refine ⟨_, _, .head, by rw [List.length_map, List.length_map]; exact szl (by omega), ?_⟩
      walk_at "wp"
      refine wp_lcM (enc := cD) (xs := c :: ls) (by walk_at "to") (fun d => decide (d ∉ comp cs c)) cD (sz (by rw [List.length_cons]; omega)) ?_
      refine iw_list ?_
      walk_at "wp"
      refine ⟨rfl, fun d hd => ?_, ?_⟩
      · unfold LcItem
        walk_at "wp"
        refine rw_niT (cD_shaped d) (cells_shaped _) ?_
        rw [in_cells]
        walk_at "wp"
        refine ⟨by simp, fun _ => ?_, fun _ => rfl⟩
        walk_at "wp"
        exact ⟨rfl, rfl⟩
      walk_at "wp"
      exact ⟨_, Nat.lt_succ_of_le hlt, ps ++ [comp cs c], _, hs, rfl, by simp, _, _, rfl⟩
def W__law_begun : List SV → Amb → KA → Prop := fun ss A k => ∃ ns : List Int, ss = [.scr ns] ∧ ∀ p q, k ⟨A.I, (p, .dk (drawDK q 0 0 0 91)) :: (q, .lst (numsSV ns)) :: A.cells⟩ (.ptr p)
theorem ok__law_begun (T : Tx w K mg) : FnOk P w K mg base CX0 1 T.f__law_begun T.d__law_begun ["script"] (spW K (W__law_begun)) := by
  refine fn_go T.F__law_begun sc__law_begun (fun ss A k h => ?_) (fun cdv A outer s H E hr => ?_)
  · obtain ⟨i, rfl, _⟩ := h; rfl
  · have hu : (A.deeper (PyProof.Rows.envOfC "_law_begun" (defScope s__law_begun) s.heap.objs.size T.f__law_begun cdv)).units + 65 < cLine := by have := hr.un; omega
    have hu1 := hu_of hr
    refine ⟨_, (pss_one (ps_ret (pe_disp (pps_cons pe_str (pe_callTy (call_listK K) (by rfl) T.n_list (by decide +kernel) (pa_cons (pv 0) pa_nil)) (pps_cons pe_str pe_int (pps_cons pe_str pe_int (pps_cons pe_str pe_int (pps_cons pe_str pe_int pps_nil))))) (by rfl) (by rfl) (fun z => by cases z) (by decide)))), ?_⟩
    rintro ss A k ⟨i, rfl, hk⟩
    (try dsimp only [cxK] at hk); (try dsimp only [cxK])
    change Go _ _ _ [_] _
    walk_at "wp"
    refine cw_listS fun q => ?_
    walk_at "wp"
    refine ⟨by show 5 ≤ 15; decide, fun p => ?_⟩
    have e : mergeS [] (drawDK q 0 0 0 91) = drawDK q 0 0 0 91 := merge_nodup (draw_nodup q 0 0 0 91)
    show k ⟨A.I, (p, .dk (mergeS [] (drawDK q 0 0 0 91))) :: (q, .lst (numsSV i)) :: A.cells⟩ (.ptr p)
    rw [e]
    exact hk p q
def W__law_take : PySem.W.Frag → List SV → Amb → KA → Prop := fun K ss A k => ∃ x : Addr × Int, ss = [.ptr x.1, .dat (.int x.2)] ∧ isDraw K A x.1 ∧ 0 < x.2 ∧ x.2 < 1073741824 ∧ ∀ r : Int, 0 ≤ r → r < x.2 → k A (.dat (.int r))
theorem ok__law_take (T : Tx w K mg) : FnOk P w K mg base CX0 1 T.f__law_take T.d__law_take ["draw", "many"] (spW K (W__law_take K)) := by
  refine fn_go T.F__law_take sc__law_take (fun ss A k h => ?_) (fun cdv A outer s H E hr => ?_)
  · obtain ⟨i, rfl, _⟩ := h; rfl
  · have hu : (A.deeper (PyProof.Rows.envOfC "_law_take" (defScope s__law_take) s.heap.objs.size T.f__law_take cdv)).units + 65 < cLine := by have := hr.un; omega
    have hu1 := hu_of hr
    refine ⟨_, (pss_cons (ps_set (i := 2) sc__law_take.nd rfl (Or.inl rfl) (pe_dget hu1 (pv 0) pe_str (fun _ _ => rfl)))
      (pss_cons (ps_while PassesOwn.never (PW.pt (pw_and (pt_cmpR op_lt (pe_dget hu1 (pv 0) pe_str (fun _ _ => rfl)) pe_int (nomark _)) (pw_and1 (pt_cmpR op_lt (pe_dget hu1 (pv 0) pe_str (fun _ _ => rfl)) (pe_callB (call_lenK K) (by rfl) T.n_len (by decide +kernel) (pa_cons (pv 2) pa_nil)) (nomark _)))))
        (pss_cons (ps_if (pt_cmpR op_ge (pe_ix (ixK K) (pv 2) (pe_dget hu1 (pv 0) pe_str (fun _ _ => rfl)) (fun _ _ => rfl)) (pe_op op_pow pe_int pe_int) (nomark _))
            (pss_one (ps_dput hu1 (pv 0) pe_str (pe_ix (ixK K) (pv 2) (pe_dget hu1 (pv 0) pe_str (fun _ _ => rfl)) (fun _ _ => rfl)) rfl))
            pss_nil)
          (pss_one (ps_dput hu1 (pv 0) pe_str (pe_op op_add (pe_dget hu1 (pv 0) pe_str (fun _ _ => rfl)) pe_int) rfl))))
      (pss_cons (ps_if (pt_cmpR op_gt (pe_dget hu1 (pv 0) pe_str (fun _ _ => rfl)) pe_int (nomark _))
        (pss_cons (ps_set (i := 3) sc__law_take.nd rfl (Or.inl rfl) (pe_op op_mod (pe_dget hu1 (pv 0) pe_str (fun _ _ => rfl)) (pv 1)))
          (pss_cons (ps_dput hu1 (pv 0) pe_str (pe_op op_fdiv (pe_dget hu1 (pv 0) pe_str (fun _ _ => rfl)) (pv 1)) rfl)
          (pss_one (ps_ret (pv 3)))))
        pss_nil)
      (pss_cons (ps_set (i := 4) sc__law_take.nd rfl (Or.inl rfl) (pe_dget hu1 (pv 0) pe_str (fun _ _ => rfl)))
      (pss_cons (ps_dput hu1 (pv 0) pe_str (pe_op op_add (pv 4) pe_int) rfl)
      (pss_cons (ps_set (i := 5) sc__law_take.nd rfl (Or.inl rfl) pe_int)
      (pss_cons (ps_if (pt_cmpR (op_neK K hu) (pv 2) (pe_lst pa_nil) (nomark _))
        (pss_one (ps_set (i := 5) sc__law_take.nd rfl (Or.inl rfl) (pe_ix (ixK K) (pv 2) (pe_op op_mod (pv 4) (pe_callB (call_lenK K) (by rfl) T.n_len (by decide +kernel) (pa_cons (pv 2) pa_nil))) (fun _ _ => rfl))))
        pss_nil)
      (pss_cons (ps_dput hu1 (pv 0) pe_str (pe_op op_mod (pe_op op_add (pe_op op_add (pe_op op_mul (pe_dget hu1 (pv 0) pe_str (fun _ _ => rfl)) pe_int) (pv 5)) (pe_op op_mul pe_int (pv 4))) pe_int) rfl)
      (pss_one (ps_ret (pe_op op_mod (pe_op op_fdiv (pe_op op_mod (pe_op op_add (pe_op op_pow (pe_dget hu1 (pv 0) pe_str (fun _ _ => rfl)) pe_int) (pe_op op_mul pe_int (pv 4))) pe_int) pe_int) (pv 1)))))))))))), ?_⟩
    rintro ss A k ⟨⟨p, many⟩, rfl, hk⟩
    (try dsimp only [cxK] at hk); (try dsimp only [cxK])
    change Go _ _ _ [_, _, SV.no, SV.no, SV.no, SV.no] _
    obtain ⟨⟨q, ns, hns, hI⟩, h0, h1, hk⟩ := hk
    obtain ⟨I, l⟩ := A
    subst hI
    refine go_open fun cs hc _ => ?_
    obtain ⟨a, r, t, m, rfl, ha, hr', ht, hm, hm2⟩ := hc
    change Go _ ⟨Blk.nil, (p, _) :: (q, _) :: l⟩ _ _ _
    walk_at "wd"
    refine go_cut (fun A1 S1 => ∃ a r : Int, 0 ≤ a ∧ 0 ≤ r ∧ A1 = ⟨Blk.nil, (p, .dk (drawDK q a r t m)) :: (q, .lst (numsSV ns)) :: l⟩ ∧ S1 = [.ptr p, .dat (.int many), .ptr q, .no, .no, .no]) ?_ ?_
    · refine go_while (fun n A1 S1 => ∃ a r : Int, 0 ≤ a ∧ 0 ≤ r ∧ n = (ns.length - a).toNat ∧ A1 = ⟨Blk.nil, (p, .dk (drawDK q a r t m)) :: (q, .lst (numsSV ns)) :: l⟩ ∧ S1 = [.ptr p, .dat (.int many), .ptr q, .no, .no, .no]) ⟨_, a, r, ha, hr', rfl, rfl, rfl⟩ ?_
      rintro n A1 S1 ⟨a, r, ha, hr', rfl, rfl, rfl⟩
      refine wpt_and ?_
      walk_at "wd"
      refine ⟨fun h1 => ?_, fun h1 => ?_⟩
      · walk_at "wd"
        rw [nums_len]
        refine ⟨fun h2 => ?_, fun _ => ⟨a, r, ha, hr', rfl, rfl⟩⟩
        rw [decide_eq_true_eq] at h2
        walk_at "wd"
        refine rw_ixP (by walk_at "cell") (atI_nums ha h2) ?_
        walk_at "wd"
        refine ⟨fun h3 => ?_, fun h3 => ?_⟩
        · walk_at "wd"
          refine rw_ixP (by walk_at "cell") (atI_nums ha h2) ?_
          walk_at "wd"
          rw [decide_eq_true_eq] at h3
          refine ⟨((ns.length : Int) - (a + 1)).toNat, by omega, a + 1, _, by omega, ?_, rfl, rfl, rfl⟩
          have e : (0 : Int) ≤ 10 ^ (18 : Int).toNat := by decide
          omega
        · walk_at "wd"
          exact ⟨((ns.length : Int) - (a + 1)).toNat, by omega, a + 1, r, by omega, hr', rfl, rfl, rfl⟩
      · exact ⟨fun z => by (cases z), fun _ => ⟨a, r, ha, hr', rfl, rfl⟩⟩
    · rintro A1 S1 ⟨a, r, ha, hr', rfl, rfl⟩
      walk_at "wd"
      refine ⟨fun h3 => ?_, fun h3 => ?_⟩
      · walk_at "wd"
        refine ⟨[_, _], l, rfl, rfl, ⟨a, _, t, m, rfl, ha, Int.ediv_nonneg hr' (by omega), ht, hm, hm2⟩, hk _ (Int.emod_nonneg _ (by omega)) (Int.emod_lt_of_pos _ h0)⟩
      · walk_at "wd"
        refine rw_neP (ds := ns.map .int) (by rw [← nums_dats]; walk_at "cell") (ints_shapedL ns) (by walk_at "sh") ?_
        walk_at "wd"
        refine if_join (fun A1 S1 => A1 = ⟨Blk.nil, (p, .dk (drawDK q a r (t + 1) m)) :: (q, .lst (numsSV ns)) :: l⟩ ∧ ∃ c : Int, S1 = [.ptr p, .dat (.int many), .ptr q, .no, .dat (.int t), .dat (.int c)]) (fun h4 => ?_) (fun h4 => ?_) ?_
        · have hne : 0 < (ns.length : Int) := by
            cases ns with
            | nil => simp [PyData.eqv, PyData.eqvAll] at h4
            | cons x xs => simp only [List.length_cons]; omega
          walk_at "wd"
          rw [nums_len]
          refine rw_I (g := fun i j => .int (i % j)) hne rfl ?_
          refine rw_ixP (by walk_at "cell") (atI_nums (Int.emod_nonneg _ (by omega)) (Int.emod_lt_of_pos _ hne)) ?_
          exact ⟨rfl, _, rfl⟩
        · walk_at "wd"
          exact ⟨rfl, 0, rfl⟩
        · rintro A1 S1 ⟨rfl, c, rfl⟩
          walk_at "wd"
          refine ⟨[_, _], l, rfl, rfl, ⟨a, r, t + 1, _, rfl, ha, hr', by omega, Int.emod_nonneg _ (by decide), Int.emod_lt_of_pos _ (by decide)⟩, hk _ (Int.emod_nonneg _ (by omega)) (Int.emod_lt_of_pos _ h0)⟩
def W__law_pick : PySem.W.Frag → List SV → Amb → KA → Prop := fun K ss A k => ∃ x : Addr × List PyData, ss = [.ptr x.1, .dat (.list x.2)] ∧ isDraw K A x.1 ∧ x.2 ≠ [] ∧ x.2.length < 1000000 ∧ ∀ d ∈ x.2, k A (.dat d)
theorem ok__law_pick (T : Tx w K mg) : FnOk P w K mg base CX0 2 T.f__law_pick T.d__law_pick ["draw", "some"] (spW K (W__law_pick K)) := by
  refine fn_go T.F__law_pick sc__law_pick (fun ss A k h => ?_) (fun cdv A outer s H E hr => ?_)
  · obtain ⟨i, rfl, _⟩ := h; rfl
  · have hu : (A.deeper (PyProof.Rows.envOfC "_law_pick" (defScope s__law_pick) s.heap.objs.size T.f__law_pick cdv)).units + 65 < cLine := by have := hr.un; omega
    have hu1 := hu_of hr
    refine ⟨_, (pss_one (ps_ret (pe_ix (ixK K) (pv 1) (pe_call (ok__law_take T) (hr.mono (by decide)) (by rfl) T.g__law_take T.F__law_take.kp T.b__law_take .nil pass0 (pa_cons (pv 0) (pa_cons (pe_callB (call_lenK K) (by rfl) T.n_len (by decide +kernel) (pa_cons (pv 1) pa_nil)) pa_nil))) (fun _ _ => rfl)))), ?_⟩
    rintro ss A k ⟨⟨p, ds⟩, rfl, hk⟩
    (try dsimp only [cxK] at hk); (try dsimp only [cxK])
    change Go _ _ _ [_, _] _
    obtain ⟨hI, h0, h1, hk⟩ := hk
    walk_at "wp"
    refine cw_lenL ?_
    walk_at "wp"
    have hp : 0 < ds.length := List.length_pos_iff.mpr h0
    refine ⟨(p, (ds.length : Int)), rfl, hI, by simp only; omega, by simp only; omega, fun r r0 r1 => ?_⟩
    simp only at r1
    have hl : r.toNat < ds.length := by omega
    have e : atI ds r = some ds[r.toNat] := by
      unfold atI ixN
      rw [if_pos r0, if_pos r1]
      exact List.getElem?_eq_getElem hl
    exact rw_ixL e (hk _ (List.getElem_mem hl))
def W__law_box : List SV → Amb → KA → Prop := fun ss A k => ∃ x : Addr × Nat × Nat, ss = [.ptr x.1, .dat (.int x.2.1), .dat (.int x.2.2)] ∧ x.2.1 ≤ 7 ∧ x.2.2 ≤ 7 ∧ k A (.dat (.list ((boxC x.2.1 x.2.2).map cD)))
theorem ok__law_box (T : Tx w K mg) : FnOk P w K mg base CX0 1 T.f__law_box T.d__law_box ["draw", "wide", "high"] (spW K (W__law_box)) := by
  refine fn_go T.F__law_box sc__law_box (fun ss A k h => ?_) (fun cdv A outer s H E hr => ?_)
  · obtain ⟨i, rfl, _⟩ := h; rfl
  · have hu : (A.deeper (PyProof.Rows.envOfC "_law_box" (defScope s__law_box) s.heap.objs.size T.f__law_box cdv)).units + 65 < cLine := by have := hr.un; omega
    have hu1 := hu_of hr
    refine ⟨_, (pss_cons (ps_set (i := 3) sc__law_box.nd rfl (Or.inl rfl) (pe_lst pa_nil))
      (pss_cons (ps_for PassesOwn.never rfl (pi_range1 (by rfl) T.n_range (pa_cons (pv 1) pa_nil)) (pg_name (i := 4) sc__law_box.nd rfl (Or.inr rfl))
        (pss_one (ps_set (i := 3) sc__law_box.nd rfl (Or.inl rfl) (pe_op op_cat (pv 3) (pe_lc (own := [("j", 5)]) rfl sc__law_box.nd (pi_range1 (by rfl) T.n_range (pa_cons (pv 2) pa_nil)) (blkOk_by (own := [("j", 5)]) (N := NN__law_box) (sc := (defScope s__law_box)) (by decide +kernel)) (fun _ _ _ _ _ => (pg_name (i := 5) sc__law_box.nd rfl (by first | exact Or.inl rfl | exact Or.inr rfl))) (fun _ _ _ _ _ => pts_nil) (fun _ _ _ _ _ => (pe_tup (pa_cons (pv 4) (pa_cons (pv 5) pa_nil)))))))))
      (pss_one (ps_ret (pv 3))))), ?_⟩
    rintro ss A k ⟨⟨p, w, h⟩, rfl, hk⟩
    (try dsimp only [cxK] at hk); (try dsimp only [cxK])
    change Go _ _ _ [_, _, _, SV.no, SV.no, SV.no] _
    obtain ⟨hw, hh, hk⟩ := hk
    walk_at "wp"
    refine go_forR (n := w) ?_
    refine iw_rng1 ?_
    walk_at "wp"
    refine ⟨by show -(2 ^ 62) ≤ (w : Int); omega, by show (w : Int) < 2 ^ 62; omega, by rw [Int.toNat_natCast], fun i A1 S1 => A1 = A ∧ ∃ x, S1 = [.ptr p, .dat (.int w), .dat (.int h), .dat (.list ((boxC i h).map cD)), x, .no], ⟨rfl, _, rfl⟩, ?_, ?_⟩
    · rintro i A1 S1 hi ⟨rfl, x, rfl⟩
      walk_at "wp"
      refine wp_lcA (enc := fun (j : Nat) => PyData.int (0 + (j : Int))) (xs := List.range h) (by walk_at "to") (fun j => cD ((i : Int), (j : Int))) (by rw [List.length_range]; exact sz (by omega)) ?_
      refine iw_rng1 ?_
      walk_at "wp"
      refine ⟨by show -(2 ^ 62) ≤ (h : Int); omega, by show (h : Int) < 2 ^ 62; omega, by rw [Int.toNat_natCast, irange_enc], fun j hj => ?_, ?_⟩
      · walk_at "wp"
        exact ⟨rfl, by simp only [cD, Int.zero_add]⟩
      · refine rw_cat ?_ ?_
        · rw [List.length_map, boxC_len, List.length_map, List.length_range]
          have := box_small (Nat.le_of_lt (Nat.lt_of_lt_of_le hi hw)) hh
          exact sz (by omega)
        · refine ⟨rfl, .dat (.int i), ?_⟩
          rw [boxC_succ, List.map_append, List.map_map]
          rfl
    · rintro A1 S1 ⟨rfl, x, rfl⟩
      walk_at "wp"
      exact hk
def W__law_kept : PySem.W.Frag → List SV → Amb → KA → Prop := fun K ss A k => ∃ x : Addr × Int × Int × Int × Cl, ss = [.ptr x.1, .dat (.int x.2.1), .dat (.int x.2.2.1), .dat (.int x.2.2.2.1), .dat (cD x.2.2.2.2)] ∧ isDraw K A x.1 ∧ ∀ b, k A (.dat (.bool b))
theorem ok__law_kept (T : Tx w K mg) : FnOk P w K mg base CX0 2 T.f__law_kept T.d__law_kept ["draw", "way", "wide", "high", "cell"] (spW K (W__law_kept K)) := by
  refine fn_go T.F__law_kept sc__law_kept (fun ss A k h => ?_) (fun cdv A outer s H E hr => ?_)
  · obtain ⟨i, rfl, _⟩ := h; rfl
  · have hu : (A.deeper (PyProof.Rows.envOfC "_law_kept" (defScope s__law_kept) s.heap.objs.size T.f__law_kept cdv)).units + 65 < cLine := by have := hr.un; omega
    have hu1 := hu_of hr
    refine ⟨_, (pss_cons (ps_asg (pv 4) (pg_tupK K 2 rfl (pgs_cons (pg_name (i := 5) sc__law_kept.nd rfl (Or.inl rfl)) (pgs_cons (pg_name (i := 6) sc__law_kept.nd rfl (Or.inl rfl)) pgs_nil))))
      (pss_cons (ps_if (pt_cmpR (op_eqK K hu) (pv 1) pe_int (nomark _))
        (pss_one (ps_ret (pe_cmpR (op_eqK K hu) (pe_call (ok__law_take T) (hr.mono (by decide)) (by rfl) T.g__law_take T.F__law_take.kp T.b__law_take .nil pass0 (pa_cons (pv 0) (pa_cons pe_int pa_nil))) pe_int (nomark _))))
        pss_nil)
      (pss_cons (ps_if (pt_cmpR (op_eqK K hu) (pv 1) pe_int (nomark _))
        (pss_one (ps_ret (pe_cmpR op_gt (pe_call (ok__law_take T) (hr.mono (by decide)) (by rfl) T.g__law_take T.F__law_take.kp T.b__law_take .nil pass0 (pa_cons (pv 0) (pa_cons pe_int pa_nil))) pe_int (nomark _))))
        pss_nil)
      (pss_cons (ps_if (pt_cmpR (op_eqK K hu) (pv 1) pe_int (nomark _))
        (pss_one (ps_ret (pe_cmpR (op_eqK K hu) (pe_call (ok__law_take T) (hr.mono (by decide)) (by rfl) T.g__law_take T.F__law_take.kp T.b__law_take .nil pass0 (pa_cons (pv 0) (pa_cons pe_int pa_nil))) pe_int (nomark _))))
        pss_nil)
      (pss_cons (ps_if (pt_cmpR (op_eqK K hu) (pv 1) pe_int (nomark _))
        (pss_one (ps_ret (pe_or (pe_cmpR (op_inK K hu) (pv 5) (pe_tup (pa_cons pe_int (pa_cons (pe_op op_sub (pv 2) pe_int) pa_nil))) rfl) (pe_or (pe_cmpR (op_inK K hu) (pv 6) (pe_tup (pa_cons pe_int (pa_cons (pe_op op_sub (pv 3) pe_int) pa_nil))) rfl) (pe_one (pe_cmpR (op_eqK K hu) (pe_call (ok__law_take T) (hr.mono (by decide)) (by rfl) T.g__law_take T.F__law_take.kp T.b__law_take .nil pass0 (pa_cons (pv 0) (pa_cons pe_int pa_nil))) pe_int (nomark _)))))))
        pss_nil)
      (pss_cons (ps_if (pt_cmpR (op_eqK K hu) (pv 1) pe_int (nomark _))
        (pss_one (ps_ret (pe_or (pe_cmpR (op_eqK K hu) (pe_op op_mod (pe_op op_add (pv 5) (pv 6)) pe_int) pe_int (nomark _)) (pe_one (pe_cmpR (op_eqK K hu) (pe_call (ok__law_take T) (hr.mono (by decide)) (by rfl) T.g__law_take T.F__law_take.kp T.b__law_take .nil pass0 (pa_cons (pv 0) (pa_cons pe_int pa_nil))) pe_int (nomark _))))))
        pss_nil)
      (pss_one (ps_ret pe_bl)))))))), ?_⟩
    rintro ss A k ⟨⟨p, w, wd, hg, c⟩, rfl, hk⟩
    (try dsimp only [cxK] at hk); (try dsimp only [cxK])
    change Go _ _ _ [_, _, _, _, _, SV.no, SV.no] _
    obtain ⟨hI, hk⟩ := hk
    walk_at "wp"
    refine ⟨fun _ => ?_, fun _ => ?_⟩
    · walk_at "wp"
      refine ⟨(_, _), rfl, hI, by simp, by simp, fun r r0 r1 => ?_⟩
      walk_at "wp"
      exact hk _
    walk_at "wp"
    refine ⟨fun _ => ?_, fun _ => ?_⟩
    · walk_at "wp"
      refine ⟨(_, _), rfl, hI, by simp, by simp, fun r r0 r1 => ?_⟩
      walk_at "wp"
      exact hk _
    walk_at "wp"
    refine ⟨fun _ => ?_, fun _ => ?_⟩
    · walk_at "wp"
      refine ⟨(_, _), rfl, hI, by simp, by simp, fun r r0 r1 => ?_⟩
      walk_at "wp"
      exact hk _
    walk_at "wp"
    refine ⟨fun _ => ?_, fun _ => ?_⟩
    · walk_at "wp"
      refine wp_orV ?_
      walk_at "wp"
      refine ⟨fun _ => hk _, fun _ => ?_⟩
      refine wp_orV ?_
      walk_at "wp"
      refine ⟨fun _ => hk _, fun _ => ?_⟩
      walk_at "wp"
      refine ⟨(_, _), rfl, hI, by simp, by simp, fun r r0 r1 => ?_⟩
      walk_at "wp"
      exact hk _
    walk_at "wp"
    refine ⟨fun _ => ?_, fun _ => ?_⟩
    · walk_at "wp"
      refine wp_orV ?_
      walk_at "wp"
      refine ⟨fun _ => hk _, fun _ => ?_⟩
      walk_at "wp"
      refine ⟨(_, _), rfl, hI, by simp, by simp, fun r r0 r1 => ?_⟩
      walk_at "wp"
      exact hk _
    walk_at "wp"
    exact hk _
def W__law_region : PySem.W.Frag → List SV → Amb → KA → Prop := fun K ss A k => ∃ x : Addr × Nat × Nat, ss = [.ptr x.1, .dat (.int x.2.1), .dat (.int x.2.2)] ∧ isDraw K A x.1 ∧ (1 ≤ x.2.1 ∧ x.2.1 ≤ 7) ∧ (1 ≤ x.2.2 ∧ x.2.2 ≤ 7) ∧ ∀ cs : List Cl, Region cs → RisC cs → (∀ c ∈ cs, c ∈ boxC x.2.1 x.2.2) → k A (.dat (.tuple (cs.map cD)))
theorem ok__law_region (T : Tx w K mg) : FnOk P w K mg base CX0 3 T.f__law_region T.d__law_region ["draw", "wide", "high"] (spW K (W__law_region K)) := by
  refine fn_go T.F__law_region sc__law_region (fun ss A k h => ?_) (fun cdv A outer s H E hr => ?_)
  · obtain ⟨i, rfl, _⟩ := h; rfl
  · have hu : (A.deeper (PyProof.Rows.envOfC "_law_region" (defScope s__law_region) s.heap.objs.size T.f__law_region cdv)).units + 65 < cLine := by have := hr.un; omega
    have hu1 := hu_of hr
    refine ⟨_, (pss_cons (ps_asg (pe_tup (pa_cons (pe_call (ok__law_box T) (hr.mono (by decide)) (by rfl) T.g__law_box T.F__law_box.kp T.b__law_box .nil pass0 (pa_cons (pv 0) (pa_cons (pv 1) (pa_cons (pv 2) pa_nil)))) (pa_cons (pe_call (ok__law_pick T) (hr.mono (by decide)) (by rfl) T.g__law_pick T.F__law_pick.kp T.b__law_pick .nil pass0 (pa_cons (pv 0) (pa_cons (pe_lst (pa_cons pe_int (pa_cons pe_int (pa_cons pe_int (pa_cons pe_int (pa_cons pe_int (pa_cons pe_int (pa_cons pe_int pa_nil)))))))) pa_nil))) pa_nil))) (pg_tupK K 2 rfl (pgs_cons (pg_name (i := 3) sc__law_region.nd rfl (Or.inl rfl)) (pgs_cons (pg_name (i := 4) sc__law_region.nd rfl (Or.inr rfl)) pgs_nil))))
      (pss_cons (ps_setLc (i := 5) (own := [("cell", 6)]) rfl sc__law_region.nd rfl rfl (sw_true rfl rfl rfl (by decide +kernel)) (pi_listK K (pv 3)) (blkOk_by (own := [("cell", 6)]) (N := NN__law_region) (sc := (defScope s__law_region)) (by decide +kernel)) (fun _ _ _ _ _ => (pg_name (i := 6) sc__law_region.nd rfl (by first | exact Or.inl rfl | exact Or.inr rfl))) (fun _ _ _ _ _ => pts_one (pt_val (pe_call (ok__law_kept T) (hr.mono (by decide)) (by rfl) T.g__law_kept T.F__law_kept.kp T.b__law_kept .nil pass0 (pa_cons (pv 0) (pa_cons (pv 4) (pa_cons (pv 1) (pa_cons (pv 2) (pa_cons (pv 6) pa_nil)))))))) (fun _ _ _ _ _ => (pv 6)))
      (pss_one (ps_ret (pe_ifExp (pt_cmpR (op_neK K hu) (pv 5) (pe_lst pa_nil) (nomark _)) (pe_callTy (call_tupK K) (by rfl) T.n_tuple (by decide +kernel) (pa_cons (pv 5) pa_nil)) (pe_tup (pa_cons (pe_call (ok__law_pick T) (hr.mono (by decide)) (by rfl) T.g__law_pick T.F__law_pick.kp T.b__law_pick .nil pass0 (pa_cons (pv 0) (pa_cons (pv 3) pa_nil))) pa_nil))))))), ?_⟩
    rintro ss A k ⟨⟨p, w, h⟩, rfl, hk⟩
    (try dsimp only [cxK] at hk); (try dsimp only [cxK])
    change Go _ _ _ [_, _, _, SV.no, SV.no, SV.no, SV.no] _
    obtain ⟨hI, hw, hh, hk⟩ := hk
    walk_at "wp"
    refine ⟨(p, w, h), rfl, hw.2, hh.2, ?_⟩
    walk_at "wp"
    refine ⟨(p, _), rfl, hI, by simp, by simp, fun d hd => ?_⟩
    simp only [List.mem_cons, List.not_mem_nil, or_false] at hd
    obtain ⟨z, rfl⟩ : ∃ z : Int, d = .int z := by
      rcases hd with h | h | h | h | h | h | h <;> exact ⟨_, h⟩
    walk_at "wp"
    refine ⟨rfl, by decide, ?_⟩
    walk_at "wp"
    refine wp_lc (by walk_at "to") ?_
    refine iw_list ?_
    walk_at "wp"
    refine ⟨fun i A1 acc => A1 = A ∧ ∃ cs : List Cl, acc = (cs.map cD).map .dat ∧ (∀ c ∈ cs, c ∈ boxC w h) ∧ cs.length ≤ i ∧ cs.Sublist ((boxC w h).take i), ⟨rfl, [], rfl, by simp, Nat.le_refl _, by simp⟩, ?_, ?_⟩
    · intro i s hs A1 acc
      rintro ⟨rfl, cs, rfl, hm, hl, hsu⟩
      obtain ⟨c, hc, rfl⟩ := get_enc hs
      have htk : (boxC w h).take (i + 1) = (boxC w h).take i ++ [c] := by rw [List.take_add_one, hc]; rfl
      have hi := (List.getElem?_eq_some_iff.mp hc).1
      rw [boxC_len] at hi
      dsimp only at hi
      have hb := box_small hw.2 hh.2
      walk_at "wp"
      refine ⟨(p, z, w, h, c), rfl, hI, fun b => ⟨b, rfl, fun _ => ?_, fun _ => ⟨rfl, cs, rfl, hm, by omega, by rw [htk]; exact hsu.trans (List.sublist_append_left _ _)⟩⟩⟩
      walk_at "wp"
      refine ⟨by rw [List.length_map, List.length_map]; exact szl (by omega), rfl, cs ++ [c], by simp, ?_, by simp; omega, by rw [htk]; exact hsu.append (List.Sublist.refl _)⟩
      intro x hx
      rcases List.mem_append.mp hx with hx | hx
      · exact hm x hx
      · rw [List.mem_singleton.mp hx]
        exact List.mem_of_getElem? hc
    · rintro A1 acc ⟨rfl, cs, rfl, hm, hl, hsu⟩
      have hcn : RisC cs := (boxC_ris w h).sublist (hsu.trans (List.take_sublist _ _))
      rw [List.length_map, List.length_map, boxC_len] at hl
      dsimp only at hl
      have hb := box_small hw.2 hh.2
      have reg : ∀ ds : List Cl, ds ≠ [] → ds.length ≤ 49 → (∀ c ∈ ds, c ∈ boxC w h) → Region ds := fun ds h1 h2 h3 => ⟨h1, h2, fun c hc => by
        have := boxC_mem (h3 c hc)
        omega⟩
      refine ⟨_, rfl, ?_⟩
      have sc := cellsL_shaped cs
      walk_at "wp"
      refine ⟨fun h1 => ?_, fun h1 => ?_⟩
      · walk_at "wp"
        refine cw_tupD (.inl rfl) ?_
        refine hk cs (reg cs ?_ (by omega) hm) hcn hm
        intro e
        subst e
        simp [PyData.eqv, PyData.eqvAll] at h1
      · walk_at "wp"
        refine ⟨(p, _), rfl, hI, ?_, ?_, fun d hd => ?_⟩
        · intro e
          have h2 := congrArg List.length e
          rw [List.length_map, boxC_len] at h2
          have h3 : 1 * 1 ≤ w * h := Nat.mul_le_mul hw.1 hh.1
          simp only [List.length_nil] at h2
          omega
        · show ((boxC w h).map cD).length < 1000000
          rw [List.length_map, boxC_len]
          omega
        · obtain ⟨c, hc, rfl⟩ := List.mem_map.mp hd
          walk_at "wp"
          refine hk [c] (reg [c] (by simp) (by simp) fun x hx => ?_) (by simp) (fun x hx => by rw [List.mem_singleton.mp hx]; exact hc)
          rw [List.mem_singleton.mp hx]
          exact hc
def W__law_size : PySem.W.Frag → List SV → Amb → KA → Prop := fun K ss A k => ∃ p : Addr, ss = [.ptr p] ∧ isDraw K A p ∧ ∀ w h : Nat, 1 ≤ w → w ≤ 7 → 1 ≤ h → h ≤ 7 → k A (.dat (.tuple [.int w, .int h]))
theorem ok__law_size (T : Tx w K mg) : FnOk P w K mg base CX0 2 T.f__law_size T.d__law_size ["draw"] (spW K (W__law_size K)) := by
  refine fn_go T.F__law_size sc__law_size (fun ss A k h => ?_) (fun cdv A outer s H E hr => ?_)
  · obtain ⟨i, rfl, _⟩ := h; rfl
  · have hu : (A.deeper (PyProof.Rows.envOfC "_law_size" (defScope s__law_size) s.heap.objs.size T.f__law_size cdv)).units + 65 < cLine := by have := hr.un; omega
    have hu1 := hu_of hr
    refine ⟨_, (pss_one (ps_ret (pe_tup (pa_cons (pe_op op_add pe_int (pe_call (ok__law_take T) (hr.mono (by decide)) (by rfl) T.g__law_take T.F__law_take.kp T.b__law_take .nil pass0 (pa_cons (pv 0) (pa_cons pe_int pa_nil)))) (pa_cons (pe_op op_add pe_int (pe_call (ok__law_take T) (hr.mono (by decide)) (by rfl) T.g__law_take T.F__law_take.kp T.b__law_take .nil pass0 (pa_cons (pv 0) (pa_cons pe_int pa_nil)))) pa_nil))))), ?_⟩
    rintro ss A k ⟨i, rfl, hk⟩
    (try dsimp only [cxK] at hk); (try dsimp only [cxK])
    change Go _ _ _ [_] _
    obtain ⟨hI, hk⟩ := hk
    walk_at "wp"
    refine ⟨(i, 7), rfl, hI, by simp, by simp, fun a a0 a1 => ?_⟩
    walk_at "wp"
    refine ⟨(i, 7), rfl, hI, by simp, by simp, fun b b0 b1 => ?_⟩
    walk_at "wp"
    simp only at a1 b1
    have e1 : 1 + a = ((1 + a).toNat : Int) := by omega
    have e2 : 1 + b = ((1 + b).toNat : Int) := by omega
    rw [e1, e2]
    exact hk _ _ (by omega) (by omega) (by omega) (by omega)
def W_steps_to : List SV → Amb → KA → Prop := fun ss A k => ∃ g : Leg, ss = [.dat (cD g.1), .dat (cD g.last)] ∧ unitC g.2.1 ∧ 1 ≤ g.2.2 ∧ g.2.2 ≤ 1000 ∧ k A (.dat (.list (g.sides.map sD)))
theorem ok_steps_to (T : Tx w K mg) : FnOk P w K mg base CX0 1 T.f_steps_to T.d_steps_to ["begin", "end"] (spW K (W_steps_to)) := by
  refine fn_go T.F_steps_to sc_steps_to (fun ss A k h => ?_) (fun cdv A outer s H E hr => ?_)
  · obtain ⟨i, rfl, _⟩ := h; rfl
  · have hu : (A.deeper (PyProof.Rows.envOfC "steps_to" (defScope s_steps_to) s.heap.objs.size T.f_steps_to cdv)).units + 65 < cLine := by have := hr.un; omega
    have hu1 := hu_of hr
    refine ⟨_, (pss_cons (ps_asg (pe_tup (pa_cons (pe_op op_sub (pe_ix (ixK K) (pv 1) pe_int (fun _ _ => rfl)) (pe_ix (ixK K) (pv 0) pe_int (fun _ _ => rfl))) (pa_cons (pe_op op_sub (pe_ix (ixK K) (pv 1) pe_int (fun _ _ => rfl)) (pe_ix (ixK K) (pv 0) pe_int (fun _ _ => rfl))) pa_nil))) (pg_tupK K 2 rfl (pgs_cons (pg_name (i := 2) sc_steps_to.nd rfl (Or.inr rfl)) (pgs_cons (pg_name (i := 3) sc_steps_to.nd rfl (Or.inr rfl)) pgs_nil))))
      (pss_cons (ps_set (i := 4) sc_steps_to.nd rfl (Or.inr rfl) (pe_op op_add (pe_callB call_absN (by rfl) T.n_abs (by decide +kernel) (pa_cons (pv 2) pa_nil)) (pe_callB call_absN (by rfl) T.n_abs (by decide +kernel) (pa_cons (pv 3) pa_nil))))
      (pss_cons (ps_setLc (i := 5) (own := [("at", 6)]) rfl sc_steps_to.nd rfl rfl (sw_true rfl rfl rfl (by decide +kernel)) (pi_range1 (by rfl) T.n_range (pa_cons (pe_op op_add (pv 4) pe_int) pa_nil)) (blkOk_by (own := [("at", 6)]) (N := NN_steps_to) (sc := (defScope s_steps_to)) (by decide +kernel)) (fun _ _ _ _ _ => (pg_name (i := 6) sc_steps_to.nd rfl (by first | exact Or.inl rfl | exact Or.inr rfl))) (fun _ _ _ _ _ => pts_nil) (fun _ _ _ _ _ => (pe_tup (pa_cons (pe_op op_add (pe_ix (ixK K) (pv 0) pe_int (fun _ _ => rfl)) (pe_op op_fdiv (pe_op op_mul (pv 2) (pv 6)) (pv 4))) (pa_cons (pe_op op_add (pe_ix (ixK K) (pv 0) pe_int (fun _ _ => rfl)) (pe_op op_fdiv (pe_op op_mul (pv 3) (pv 6)) (pv 4))) pa_nil)))))
      (pss_one (ps_ret (pe_listZipK K (by rfl) T.n_list (by rfl) T.n_zip (pa_cons (pv 5) (pa_cons (pe_slice (sl_listK K) (pv 5) (po_some pe_int) po_none) pa_nil)))))))), ?_⟩
    rintro ss A k ⟨⟨b, d, m⟩, rfl, hk⟩
    (try dsimp only [cxK] at hk); (try dsimp only [cxK])
    change Go _ _ _ [_, _, SV.no, SV.no, SV.no, SV.no, SV.no] _
    obtain ⟨hu, h1, h2, hk⟩ := hk
    have hu : unitC d := hu
    have h1 : 1 ≤ m := h1
    have h2 : m ≤ 1000 := h2
    have hk : k A (.dat (.list ((stp b d m).map sD))) := hk
    have e1 : (Leg.last (b, d, m)).1 - b.1 = (m : Int) * d.1 := by unfold Leg.last onC; simp only; omega
    have e2 : (Leg.last (b, d, m)).2 - b.2 = (m : Int) * d.2 := by unfold Leg.last onC; simp only; omega
    walk_at "wp"
    rw [e1, e2]
    refine ⟨rfl, by decide, ?_⟩
    walk_at "wp"
    refine cw_abs ?_
    walk_at "wp"
    refine cw_abs ?_
    walk_at "wp"
    rw [unit_abs hu m]
    obtain ⟨d1, d2, d3, d4⟩ := unit_one hu
    refine wp_lcA (enc := fun i : Nat => PyData.int (0 + (i : Int))) (xs := List.range (m + 1)) (by walk_at "to") (fun j => cD (onC b d j)) (sz (by rw [List.length_range]; omega)) ?_
    refine iw_rng1 ?_
    walk_at "wp"
    refine ⟨by omega, by omega, by rw [show ((m : Int) + 1).toNat = m + 1 by omega, irange_enc], fun j hj => ?_, ?_⟩
    · have hj := List.mem_range.mp hj
      have f1 : (m : Int) * d.1 * (0 + (j : Int)) / m = j * d.1 := by rw [Int.zero_add]; exact part_div h1 _ _
      have f2 : (m : Int) * d.2 * (0 + (j : Int)) / m = j * d.2 := by rw [Int.zero_add]; exact part_div h1 _ _
      walk_at "wp"
      rw [f1, f2]
      exact ⟨rfl, rfl⟩
    have e0 : ((List.range (m + 1)).map fun j => cD (onC b d (j : Nat))) = (cnr b d m).map cD := by unfold cnr; rw [List.map_map]; rfl
    rw [e0]
    have hcl : (cnr b d m).length = m + 1 := by unfold cnr; rw [List.length_map, List.length_range]
    walk_at "wp"
    refine wp_listZip ?_
    walk_at "wp"
    refine sw_list ?_
    rw [cut_drop (by omega) (by rw [List.length_map, hcl]; omega)]
    refine wpa_nil ?_
    refine ⟨_, _, rfl, ?_⟩
    rw [show (1 : Int).toNat = 1 from rfl, cnr_zip]
    exact hk
def W_ring_sides : List SV → Amb → KA → Prop := fun ss A k => ∃ x : List Sd × Sd × List Cl × List Leg, ss = [.dat (ctD (x.2.1.1 :: x.2.2.1))] ∧ x.1.length ≤ 1000 ∧ Legs x.1 (x.2.1.1 :: x.2.2.1) x.2.1.1 x.2.2.2 ∧ ∀ q, k (A.add q (.lst ((x.1.map sD).map .dat))) (.ptr q)
theorem ok_ring_sides (T : Tx w K mg) : FnOk P w K mg base CX0 2 T.f_ring_sides T.d_ring_sides ["ring"] (spW K (W_ring_sides)) := by
  refine fn_go T.F_ring_sides sc_ring_sides (fun ss A k h => ?_) (fun cdv A outer s H E hr => ?_)
  · obtain ⟨i, rfl, _⟩ := h; rfl
  · have hu : (A.deeper (PyProof.Rows.envOfC "ring_sides" (defScope s_ring_sides) s.heap.objs.size T.f_ring_sides cdv)).units + 65 < cLine := by have := hr.un; omega
    have hu1 := hu_of hr
    refine ⟨_, (pss_cons (ps_set (i := 1) sc_ring_sides.nd rfl (Or.inl rfl) (pe_lst pa_nil))
      (pss_cons (ps_for PassesOwn.never rfl (pi_enumTK K (by rfl) T.n_enumerate (pa_cons (pv 0) pa_nil)) (pg_tupK K 2 rfl (pgs_cons (pg_name (i := 2) sc_ring_sides.nd rfl (Or.inl rfl)) (pgs_cons (pg_name (i := 3) sc_ring_sides.nd rfl (Or.inl rfl)) pgs_nil)))
        (pss_one (ps_aug (i := 1) sc_ring_sides.nd rfl (Or.inl rfl) (pe_call (ok_steps_to T) (hr.mono (by decide)) (by rfl) T.g_steps_to T.F_steps_to.kp T.b_steps_to .nil pass0 (pa_cons (pv 3) (pa_cons (pe_ix (ixK K) (pv 0) (pe_op op_mod (pe_op op_add (pv 2) pe_int) (pe_callB (call_lenK K) (by rfl) T.n_len (by decide +kernel) (pa_cons (pv 0) pa_nil))) (fun _ _ => rfl)) pa_nil))) ip_ext)))
      (pss_one (ps_ret (pv 1))))), ?_⟩
    rintro ss A k ⟨⟨w, s, c, L⟩, rfl, hk⟩
    (try dsimp only [cxK] at hk); (try dsimp only [cxK])
    change Go _ _ _ [_, SV.no, SV.no, SV.no] _
    obtain ⟨hw, hL, hk⟩ := hk
    have hw : w.length ≤ 1000 := hw
    have hL : Legs w (s.1 :: c) s.1 L := hL
    have hk : ∀ q, k (A.add q (.lst ((w.map sD).map .dat))) (.ptr q) := hk
    obtain ⟨I, l⟩ := A
    refine go_seq ?_
    refine go_set ?_
    refine wp_lstO ?_
    walk_at "wp1"
    refine ⟨Nat.zero_le _, fun q => ?_⟩
    refine go_seq ?_
    refine go_for ?_
    refine iw_enumT ?_
    walk_at "wp"
    have hn : L.length = (s.1 :: c).length := by rw [← hL.at_, List.length_map]
    have hflat : ∀ i, ((L.take i).flatMap Leg.sides).length ≤ w.length := fun i => by
      rw [← hL.sides]
      conv => rhs; rw [← List.take_append_drop i L, List.flatMap_append, List.length_append]
      omega
    have hcn : (s.1 :: c).length ≤ 1000 := by
      have h1 : ∀ M : List Leg, (∀ g ∈ M, 1 ≤ g.2.2) → M.length ≤ (M.flatMap Leg.sides).length := by
        intro M
        induction M with
        | nil => intro _; simp
        | cons g M ih =>
          intro h
          have := ih fun x hx => h x (List.mem_cons_of_mem _ hx)
          have h2 := h g List.mem_cons_self
          have h3 : (Leg.sides g).length = g.2.2 := by unfold Leg.sides stp; rw [List.length_map, List.length_range]
          rw [List.flatMap_cons, List.length_append, List.length_cons, h3]
          omega
      have := h1 L fun g hg => (hL.ok g hg).2
      rw [hL.sides, hn] at this
      omega
    generalize hcs : s.1 :: c = cs at hn hcn hL ⊢
    refine ⟨fun i A1 S1 => A1 = ⟨I, (q, .lst ((((L.take i).flatMap Leg.sides).map sD).map .dat)) :: l⟩ ∧ ∃ x y, S1 = [.dat (ctD cs), .ptr q, x, y], ⟨rfl, _, _, rfl⟩, ?_, ?_⟩
    · rintro i z A1 S1 hz ⟨rfl, x, y, rfl⟩
      obtain ⟨d, hd, rfl⟩ := enumD_get hz
      rw [List.getElem?_map] at hd
      obtain ⟨ci, hci, rfl⟩ := Option.map_eq_some_iff.mp hd
      have hi := (List.getElem?_eq_some_iff.mp hci).1
      have hg : L[i]? = some (L[i]'(by omega)) := List.getElem?_eq_getElem (by omega)
      have hmem := List.getElem_mem (by omega : i < L.length)
      generalize hgg : L[i]'(by omega) = g at hg hmem
      have hg1 : g.1 = ci := by
        have := congrArg (·[i]?) hL.at_
        simp only [List.getElem?_map, hg, hci, Option.map_some] at this
        exact Option.some.inj this
      obtain ⟨hu, hm⟩ := hL.ok g hmem
      have hnx := hL.next i g hg
      have htk : (L.take (i + 1)).flatMap Leg.sides = (L.take i).flatMap Leg.sides ++ g.sides := by
        rw [List.take_add_one, hg, List.flatMap_append]
        simp
      have hml := hflat (i + 1)
      have h3 : (Leg.sides g).length = g.2.2 := by unfold Leg.sides stp; rw [List.length_map, List.length_range]
      rw [htk, List.length_append, h3] at hml
      have hat : atI (cs.map cD) (((i : Int) + 1) % (cs.length : Int)) = some (cD g.last) := by
        by_cases h : i + 1 < cs.length
        · rw [Int.emod_eq_of_lt (by omega) (by omega)]
          refine atI_at (by omega) ?_
          rw [show ((i : Int) + 1).toNat = i + 1 by omega, List.getElem?_map, List.getElem?_eq_getElem h, hnx, List.getD_eq_getElem?_getD, List.getElem?_append_left h, List.getElem?_eq_getElem h]
          rfl
        · have h2 : i + 1 = cs.length := by omega
          rw [show (i : Int) + 1 = (cs.length : Int) by omega, Int.emod_self]
          refine atI_at (by decide) ?_
          rw [hnx, h2, List.getD_eq_getElem?_getD, List.getElem?_append_right (Nat.le_refl _), Nat.sub_self, ← hcs]
          rfl
      walk_at "wp"
      refine go_augL (p := q) rfl ?_
      walk_at "wp"
      refine cw_lenT ?_
      walk_at "wp"
      rw [List.length_map]
      refine rw_I (g := fun i j => V.int (i % j)) (d := .int (((i : Int) + 1) % (cs.length : Int))) (by show (0 : Int) < cs.length; omega) rfl ?_
      refine rw_ixT hat ?_
      walk_at "wp"
      refine ⟨g, by rw [← hg1], hu, hm, by omega, ?_⟩
      refine ⟨_, _, _, rfl, .head, by rw [List.length_map, List.length_map, List.length_map, h3]; exact sz (by omega), ?_⟩
      exact ⟨by rw [htk, List.map_append, List.map_append], _, _, rfl⟩
    · rintro A1 S1 ⟨rfl, x, y, rfl⟩
      rw [List.length_map, enumD_length, List.length_map, ← hn, List.take_length, hL.sides]
      walk_at "wp"
      exact hk q
def W__law_moved : List SV → Amb → KA → Prop := fun ss A k => ∃ x : Cl × Int × Int × Int, ss = [.dat (cD x.1), .dat (.int x.2.1), .dat (.tuple [.int x.2.2.1, .int x.2.2.2])] ∧ k A (.dat (cD (mvC x.2.1 x.2.2.1 x.2.2.2 x.1)))
theorem ok__law_moved (T : Tx w K mg) : FnOk P w K mg base CX0 1 T.f__law_moved T.d__law_moved ["corner", "way", "size"] (spW K (W__law_moved)) := by
  refine fn_go T.F__law_moved sc__law_moved (fun ss A k h => ?_) (fun cdv A outer s H E hr => ?_)
  · obtain ⟨i, rfl, _⟩ := h; rfl
  · have hu : (A.deeper (PyProof.Rows.envOfC "_law_moved" (defScope s__law_moved) s.heap.objs.size T.f__law_moved cdv)).units + 65 < cLine := by have := hr.un; omega
    have hu1 := hu_of hr
    refine ⟨_, (pss_cons (ps_asg (pe_tup (pa_cons (pv 0) (pa_cons (pv 2) pa_nil))) (pg_tupK K 2 rfl (pgs_cons (pg_tupK K 2 rfl (pgs_cons (pg_name (i := 3) sc__law_moved.nd rfl (Or.inl rfl)) (pgs_cons (pg_name (i := 4) sc__law_moved.nd rfl (Or.inl rfl)) pgs_nil))) (pgs_cons (pg_tupK K 2 rfl (pgs_cons (pg_name (i := 5) sc__law_moved.nd rfl (Or.inl rfl)) (pgs_cons (pg_name (i := 6) sc__law_moved.nd rfl (Or.inl rfl)) pgs_nil))) pgs_nil))))
      (pss_cons (ps_if (pt_cmpR (op_eqK K hu) (pv 1) pe_int (nomark _))
        (pss_one (ps_ret (pe_tup (pa_cons (pe_op op_sub (pe_op op_add (pv 3) pe_int) (pv 5)) (pa_cons (pe_op op_sub (pe_op op_add (pv 4) pe_int) (pv 6)) pa_nil)))))
        pss_nil)
      (pss_one (ps_ret (pe_ifExp (pt_cmpR (op_eqK K hu) (pv 1) pe_int (nomark _)) (pe_tup (pa_cons (pe_op op_sub (pv 6) (pv 4)) (pa_cons (pv 3) pa_nil))) (pe_tup (pa_cons (pe_op op_sub (pv 5) (pv 3)) (pa_cons (pv 4) pa_nil)))))))), ?_⟩
    rintro ss A k ⟨⟨c, way, w, h⟩, rfl, hk⟩
    (try dsimp only [cxK] at hk); (try dsimp only [cxK])
    change Go _ _ _ [_, _, _, SV.no, SV.no, SV.no, SV.no] _
    have hk : k A (.dat (cD (mvC way w h c))) := hk
    unfold mvC at hk
    walk_at "wp"
    refine ⟨rfl, by decide, ?_⟩
    walk_at "wp"
    refine ⟨fun h0 => ?_, fun h0 => ?_⟩
    · walk_at "wp"
      rw [if_pos (of_decide_eq_true h0)] at hk
      exact hk
    · walk_at "wp"
      rw [if_neg (of_decide_eq_false h0)] at hk
      refine ⟨fun h1 => ?_, fun h1 => ?_⟩
      · walk_at "wp"
        rw [if_pos (of_decide_eq_true h1)] at hk
        exact hk
      · walk_at "wp"
        rw [if_neg (of_decide_eq_false h1)] at hk
        exact hk
def W__law_cell_moved : List SV → Amb → KA → Prop := fun ss A k => ∃ x : Cl × Int × Int × Int, ss = [.dat (cD x.1), .dat (.int x.2.1), .dat (.tuple [.int x.2.2.1, .int x.2.2.2])] ∧ k A (.dat (cD (cmC x.2.1 x.2.2.1 x.2.2.2 x.1)))
theorem ok__law_cell_moved (T : Tx w K mg) : FnOk P w K mg base CX0 2 T.f__law_cell_moved T.d__law_cell_moved ["cell", "way", "size"] (spW K (W__law_cell_moved)) := by
  refine fn_go T.F__law_cell_moved sc__law_cell_moved (fun ss A k h => ?_) (fun cdv A outer s H E hr => ?_)
  · obtain ⟨i, rfl, _⟩ := h; rfl
  · have hu : (A.deeper (PyProof.Rows.envOfC "_law_cell_moved" (defScope s__law_cell_moved) s.heap.objs.size T.f__law_cell_moved cdv)).units + 65 < cLine := by have := hr.un; omega
    have hu1 := hu_of hr
    refine ⟨_, (pss_cons (ps_asg (pv 0) (pg_tupK K 2 rfl (pgs_cons (pg_name (i := 3) sc__law_cell_moved.nd rfl (Or.inl rfl)) (pgs_cons (pg_name (i := 4) sc__law_cell_moved.nd rfl (Or.inl rfl)) pgs_nil))))
      (pss_cons (ps_set (i := 5) sc__law_cell_moved.nd rfl (Or.inl rfl) (pe_lst (pa_cons (pe_tup (pa_cons (pv 3) (pa_cons (pv 4) pa_nil))) (pa_cons (pe_tup (pa_cons (pe_op op_add (pv 3) pe_int) (pa_cons (pv 4) pa_nil))) (pa_cons (pe_tup (pa_cons (pv 3) (pa_cons (pe_op op_add (pv 4) pe_int) pa_nil))) (pa_cons (pe_tup (pa_cons (pe_op op_add (pv 3) pe_int) (pa_cons (pe_op op_add (pv 4) pe_int) pa_nil))) pa_nil))))))
      (pss_one (ps_ret (pe_callB (cr_minDK K rfl hu) (by rfl) T.n_min (by decide +kernel) (pa_cons (pe_lc (own := [("corner", 6)]) rfl sc__law_cell_moved.nd (pi_listK K (pv 5)) (blkOk_by (own := [("corner", 6)]) (N := NN__law_cell_moved) (sc := (defScope s__law_cell_moved)) (by decide +kernel)) (fun _ _ _ _ _ => (pg_name (i := 6) sc__law_cell_moved.nd rfl (by first | exact Or.inl rfl | exact Or.inr rfl))) (fun _ _ _ _ _ => pts_nil) (fun _ _ _ _ _ => (pe_call (ok__law_moved T) (hr.mono (by decide)) (by rfl) T.g__law_moved T.F__law_moved.kp T.b__law_moved .nil pass0 (pa_cons (pv 6) (pa_cons (pv 1) (pa_cons (pv 2) pa_nil)))))) pa_nil)))))), ?_⟩
    rintro ss A k ⟨⟨c, way, w, h⟩, rfl, hk⟩
    (try dsimp only [cxK] at hk); (try dsimp only [cxK])
    change Go _ _ _ [_, _, _, SV.no, SV.no, SV.no, SV.no] _
    have hk : k A (.dat (cD (cmC way w h c))) := hk
    obtain ⟨i, j⟩ := c
    walk_at "wp"
    refine wp_lcA (enc := cD) (xs := [(i, j), (i + 1, j), (i, j + 1), (i + 1, j + 1)]) (by walk_at "to") (fun c => cD (mvC way w h c)) (sz64 rfl) ?_
    refine iw_list ?_
    walk_at "wp"
    refine ⟨rfl, fun c hc => ?_, ?_⟩
    · walk_at "wp"
      exact ⟨(c, way, w, h), rfl, rfl, rfl⟩
    walk_at "wp"
    have hc := cm_corners way w h i j
    exact cw_minC (xs := [mvC way w h (i, j), mvC way w h (i + 1, j), mvC way w h (i, j + 1), mvC way w h (i + 1, j + 1)]) hc.1 hc.2 hk
def W__law_as_sets : World → List SV → Amb → KA → Prop := fun w ss A k => ∃ cs : List Cl, ss = [.dat (ctD cs)] ∧ cs.Nodup ∧ cs.length ≤ 49 ∧ ∀ rs, Rings cs rs → k A (.dat (.list (dsort ((rs.map sortS).map slD))))
theorem ok__law_as_sets (T : Tx w K mg) : FnOk P w K mg base CX0 6 T.f__law_as_sets T.d__law_as_sets ["region"] (spW K (W__law_as_sets w)) := by
  refine fn_go T.F__law_as_sets sc__law_as_sets (fun ss A k h => ?_) (fun cdv A outer s H E hr => ?_)
  · obtain ⟨i, rfl, _⟩ := h; rfl
  · have hu : (A.deeper (PyProof.Rows.envOfC "_law_as_sets" (defScope s__law_as_sets) s.heap.objs.size T.f__law_as_sets cdv)).units + 65 < cLine := by have := hr.un; omega
    have hu1 := hu_of hr
    refine ⟨_, (pss_one (ps_ret (pe_callB (cr_sortK K hu) (by rfl) T.n_sorted (by decide +kernel) (pa_cons (pe_lc (own := [("loop", 1)]) rfl sc__law_as_sets.nd (pi_listK K (pe_call (ok_rings T) (hr.mono (by decide)) (by rfl) T.g_rings T.F_rings.kp T.b_rings .nil pass0 (pa_cons (pv 0) pa_nil))) (blkOk_by (own := [("loop", 1)]) (N := NN__law_as_sets) (sc := (defScope s__law_as_sets)) (by decide +kernel)) (fun _ _ _ _ _ => (pg_name (i := 1) sc__law_as_sets.nd rfl (by first | exact Or.inl rfl | exact Or.inr rfl))) (fun _ _ _ _ _ => pts_nil) (fun _ _ _ _ _ => (pe_callB (cr_sortK K hu) (by rfl) T.n_sorted (by decide +kernel) (pa_cons (pe_call (ok_ring_sides T) (hr.mono (by decide)) (by rfl) T.g_ring_sides T.F_ring_sides.kp T.b_ring_sides .nil pass0 (pa_cons (pv 1) pa_nil)) pa_nil)))) pa_nil)))), ?_⟩
    rintro ss A k ⟨i, rfl, hk⟩
    (try dsimp only [cxK] at hk); (try dsimp only [cxK])
    change Go _ _ _ [_, SV.no] _
    obtain ⟨hn, hl, hk⟩ := hk
    obtain ⟨I, l⟩ := A
    refine go_ret ?_
    refine wp_frz ?_
    walk_at "wp"
    refine wp_lc (by walk_at "to") ?_
    refine iw_list ?_
    refine wp_frz ?_
    walk_at "wp"
    refine ⟨hn, hl, fun q rs ho => ⟨q, _, _, rfl, .head, ?_⟩⟩
    have hR := rings_of hl ho
    have hsp := tkSort_perm rs
    have hll := hR.many
    rw [tkSort_map]
    refine ⟨_, rfl, fun i A1 acc => A1 = ⟨I, l⟩ ∧ acc = ((((tkSort rs).take i).map sortS).map slD).map .dat, ⟨rfl, rfl⟩, ?_, ?_⟩
    · rintro i s hs A1 acc ⟨rfl, rfl⟩
      obtain ⟨r, hr, rfl⟩ := get_enc hs
      have hrm := List.mem_of_getElem? hr
      have hi := (List.getElem?_eq_some_iff.mp hr).1
      have sh := hR.shown r (hsp.mem_iff.mp hrm)
      have hln := (hR.len r (hsp.mem_iff.mp hrm)).1
      have hwl : (wkL r).length = r.length := sh.perm.length_eq
      have ed : tkD r = ctD ((wk r).1.1 :: cornP (wk r).1 (wk r).2.1) := by show ctD (tk r) = _; rw [sh.tk_]
      rw [ed]
      refine gw_name ?_
      walk_at "wp"
      refine ⟨fun _ => ?_, fun h => by cases h⟩
      refine wp_drop (wp_frz ?_)
      walk_at "wp"
      refine ⟨(wkL r, (wk r).1, _, (wk r).2.2), rfl, by show (wkL r).length ≤ 1000; omega, sh.legs, fun y => ?_⟩
      walk_at "wp"
      refine cw_sortP (by walk_at "cell") (sides_alike _) (sides_sort _) (sides_depth _) fun z => ⟨z, _, _, rfl, .head, ?_⟩
      refine ⟨y, _, _, .head, ?_, rfl, ?_⟩
      · rw [List.length_map, List.length_map, List.length_map, List.length_take]
        have := hsp.length_eq
        exact szl (by omega)
      · have ew : sortS (wkL r) = sortS r := sortS_eq sh.perm
        rw [← sortS_map]
        show _ ++ [SV.dat (slD (sortS (wkL r)))] = _
        rw [ew, List.take_add_one, hr]
        simp
    · rintro A1 acc ⟨rfl, rfl⟩
      refine ⟨_, rfl, ?_⟩
      rw [List.length_map, List.length_map, List.take_length]
      walk_at "wp"
      refine cw_sortL (sls_alike _) (sls_sort _) (sls_depth _) fun z => ⟨z, _, _, rfl, .head, ?_⟩
      rw [dsort_eq ((hsp.map sortS).map slD) (sls_alike _) (sls_plain _)]
      exact hk rs hR
def W__law_goes_with : World → List SV → Amb → KA → Prop := fun w ss A k => ∃ x : List Cl × Int × Int × Int, ss = [.dat (ctD x.1), .dat (.int x.2.1), .dat (.tuple [.int x.2.2.1, .int x.2.2.2])] ∧ x.1.Nodup ∧ x.1.length ≤ 49 ∧ (x.2.1 = 0 ∨ x.2.1 = 1 ∨ x.2.1 = 2) ∧ k A (.dat (.bool true))
theorem ok__law_goes_with (T : Tx w K mg) : FnOk P w K mg base CX0 7 T.f__law_goes_with T.d__law_goes_with ["region", "way", "size"] (spW K (W__law_goes_with w)) := by
  refine fn_go T.F__law_goes_with sc__law_goes_with (fun ss A k h => ?_) (fun cdv A outer s H E hr => ?_)
  · obtain ⟨i, rfl, _⟩ := h; rfl
  · have hu : (A.deeper (PyProof.Rows.envOfC "_law_goes_with" (defScope s__law_goes_with) s.heap.objs.size T.f__law_goes_with cdv)).units + 65 < cLine := by have := hr.un; omega
    have hu1 := hu_of hr
    refine ⟨_, (pss_cons (ps_set (i := 3) sc__law_goes_with.nd rfl (Or.inl rfl) (pe_callTy (call_tupK K) (by rfl) T.n_tuple (by decide +kernel) (pa_cons (pe_callB (cr_sortK K hu) (by rfl) T.n_sorted (by decide +kernel) (pa_cons (pe_lc (own := [("cell", 9)]) rfl sc__law_goes_with.nd (pi_tupK K (pv 0)) (blkOk_by (own := [("cell", 9)]) (N := NN__law_goes_with) (sc := (defScope s__law_goes_with)) (by decide +kernel)) (fun _ _ _ _ _ => (pg_name (i := 9) sc__law_goes_with.nd rfl (by first | exact Or.inl rfl | exact Or.inr rfl))) (fun _ _ _ _ _ => pts_nil) (fun _ _ _ _ _ => (pe_call (ok__law_cell_moved T) (hr.mono (by decide)) (by rfl) T.g__law_cell_moved T.F__law_cell_moved.kp T.b__law_cell_moved .nil pass0 (pa_cons (pv 9) (pa_cons (pv 1) (pa_cons (pv 2) pa_nil)))))) pa_nil)) pa_nil)))
      (pss_cons (ps_set (i := 4) sc__law_goes_with.nd rfl (Or.inl rfl) (pe_lst pa_nil))
      (pss_cons (ps_for PassesOwn.never rfl (pi_listK K (pe_call (ok_rings T) (hr.mono (by decide)) (by rfl) T.g_rings T.F_rings.kp T.b_rings .nil pass0 (pa_cons (pv 0) pa_nil))) (pg_name (i := 5) sc__law_goes_with.nd rfl (Or.inl rfl))
        (pss_cons (ps_setLc (i := 6) (own := [("begin", 7), ("end", 8)]) rfl sc__law_goes_with.nd rfl rfl (sw_true rfl rfl rfl (by decide +kernel)) (pi_listK K (pe_call (ok_ring_sides T) (hr.mono (by decide)) (by rfl) T.g_ring_sides T.F_ring_sides.kp T.b_ring_sides .nil pass0 (pa_cons (pv 5) pa_nil))) (blkOk_by (own := [("begin", 7), ("end", 8)]) (N := NN__law_goes_with) (sc := (defScope s__law_goes_with)) (by decide +kernel)) (fun _ _ _ _ _ => (pg_tupK K 2 rfl (pgs_cons (pg_name (i := 7) sc__law_goes_with.nd rfl (by first | exact Or.inl rfl | exact Or.inr rfl)) (pgs_cons (pg_name (i := 8) sc__law_goes_with.nd rfl (by first | exact Or.inl rfl | exact Or.inr rfl)) pgs_nil)))) (fun _ _ _ _ _ => pts_nil) (fun _ _ _ _ _ => (pe_tup (pa_cons (pe_call (ok__law_moved T) (hr.mono (by decide)) (by rfl) T.g__law_moved T.F__law_moved.kp T.b__law_moved .nil pass0 (pa_cons (pv 7) (pa_cons (pv 1) (pa_cons (pv 2) pa_nil)))) (pa_cons (pe_call (ok__law_moved T) (hr.mono (by decide)) (by rfl) T.g__law_moved T.F__law_moved.kp T.b__law_moved .nil pass0 (pa_cons (pv 8) (pa_cons (pv 1) (pa_cons (pv 2) pa_nil)))) pa_nil)))))
          (pss_one (ps_expr (pe_bmK K PySem.F.plainAttrs_list PySem.F.slot_list_append PySem.F.type_list_append mt_append (pv 4) (pa_cons (pe_callB (cr_sortK K hu) (by rfl) T.n_sorted (by decide +kernel) (pa_cons (pe_ifExp (pt_cmpR (op_eqK K hu) (pv 1) pe_int (nomark _)) (pe_lc (own := [("begin", 7), ("end", 8)]) rfl sc__law_goes_with.nd (pi_listK K (pv 6)) (blkOk_by (own := [("begin", 7), ("end", 8)]) (N := NN__law_goes_with) (sc := (defScope s__law_goes_with)) (by decide +kernel)) (fun _ _ _ _ _ => (pg_tupK K 2 rfl (pgs_cons (pg_name (i := 7) sc__law_goes_with.nd rfl (by first | exact Or.inl rfl | exact Or.inr rfl)) (pgs_cons (pg_name (i := 8) sc__law_goes_with.nd rfl (by first | exact Or.inl rfl | exact Or.inr rfl)) pgs_nil)))) (fun _ _ _ _ _ => pts_nil) (fun _ _ _ _ _ => (pe_tup (pa_cons (pv 8) (pa_cons (pv 7) pa_nil))))) (pv 6)) pa_nil)) pa_nil))))))
      (pss_one (ps_ret (pe_cmpR (op_eqK K hu) (pe_call (ok__law_as_sets T) (hr.mono (by decide)) (by rfl) T.g__law_as_sets T.F__law_as_sets.kp T.b__law_as_sets .nil pass0 (pa_cons (pv 3) pa_nil)) (pe_callB (cr_sortK K hu) (by rfl) T.n_sorted (by decide +kernel) (pa_cons (pv 4) pa_nil)) (nomark _))))))), ?_⟩
    rintro ss A k ⟨⟨cs, way, wd, h⟩, rfl, hk⟩
    (try dsimp only [cxK] at hk); (try dsimp only [cxK])
    change Go _ _ _ [_, _, _, SV.no, SV.no, SV.no, SV.no, SV.no, SV.no, SV.no] _
    obtain ⟨hn, hl, hw, hk⟩ := hk
    have hk : k A (.dat (.bool true)) := hk
    have hn : cs.Nodup := hn
    have hl : cs.length ≤ 49 := hl
    have hw : way = 0 ∨ way = 1 ∨ way = 2 := hw
    obtain ⟨I, l⟩ := A
    refine go_seq ?_
    walk_at "wp"
    refine wp_lcA (enc := cD) (xs := cs) (by walk_at "to") (fun c => cD (cmC way wd h c)) (sz (by omega)) ?_
    refine iw_tup ?_
    walk_at "wp"
    refine ⟨rfl, fun c hc => ?_, ?_⟩
    · walk_at "wp"
      exact ⟨(c, way, wd, h), rfl, rfl, rfl⟩
    have e1 : (cs.map fun c => cD (cmC way wd h c)) = (cs.map (cmC way wd h)).map cD := by rw [List.map_map]; rfl
    rw [e1]
    walk_at "wp"
    refine cw_frz (cw_sortL (cells_alike _) (cells_sort _) (cells_depth _) fun z => ⟨z, _, _, rfl, .head, ?_⟩)
    rw [cSort_map]
    have hV : ∀ c, c ∈ cSort (cs.map (cmC way wd h)) ↔ ∃ d ∈ cs, cmC way wd h d = c := fun c => by rw [(cSort_perm _).mem_iff, List.mem_map]
    have hVn : (cSort (cs.map (cmC way wd h))).Nodup := (cSort_perm _).nodup_iff.mpr (nd_map (cm_inj way wd h) hn)
    have hVl : (cSort (cs.map (cmC way wd h))).length ≤ 49 := by rw [(cSort_perm _).length_eq, List.length_map]; exact hl
    generalize cSort (cs.map (cmC way wd h)) = vs at hV hVn hVl ⊢
    walk_at "wp1"
    refine cw_tupD (.inl rfl) ?_
    refine go_seq ?_
    refine go_set ?_
    refine wp_lstO ?_
    walk_at "wp1"
    refine ⟨Nat.zero_le _, fun du => ?_⟩
    refine go_seq ?_
    refine go_for ?_
    refine iw_list ?_
    refine wp_frz ?_
    walk_at "wp"
    refine ⟨hn, hl, fun q rs ho => ⟨q, _, _, rfl, .head, ?_⟩⟩
    have hR := rings_of hl ho
    have hsp := tkSort_perm rs
    have hll := hR.many
    rw [tkSort_map]
    refine ⟨_, rfl, fun j A1 S1 => A1 = ⟨I, (du, .lst (((((tkSort rs).take j).map fun r => sortS ((wkL r).map (msD way wd h))).map slD).map .dat)) :: l⟩ ∧ ∃ x5 x6, S1 = [.dat (ctD cs), .dat (.int way), .dat (.tuple [.int wd, .int h]), .dat (ctD vs), .ptr du, x5, x6, .no, .no, .no], ⟨rfl, _, _, rfl⟩, ?_, ?_⟩
    · rintro j s A1 S1 hs ⟨rfl, x5, x6, rfl⟩
      obtain ⟨r, hr, rfl⟩ := get_enc hs
      have hrm := List.mem_of_getElem? hr
      have sh := hR.shown r (hsp.mem_iff.mp hrm)
      have hln := (hR.len r (hsp.mem_iff.mp hrm)).1
      have hwl : (wkL r).length = r.length := sh.perm.length_eq
      have ed : tkD r = ctD ((wk r).1.1 :: cornP (wk r).1 (wk r).2.1) := by show ctD (tk r) = _; rw [sh.tk_]
      rw [ed]
      refine gw_name ?_
      refine go_seq ?_
      refine go_set ?_
      refine wp_lcA (enc := sD) (xs := wkL r) (by walk_at "to") (fun s => .tuple [cD (mvC way wd h s.1), cD (mvC way wd h s.2)]) (sz (by omega)) ?_
      refine iw_list ?_
      refine wp_frz ?_
      walk_at "wp"
      refine ⟨(wkL r, (wk r).1, _, (wk r).2.2), rfl, by show (wkL r).length ≤ 1000; omega, sh.legs, fun y => ⟨y, _, _, rfl, .head, ?_⟩⟩
      refine ⟨_, rfl, rfl, fun s hs => ?_, ?_⟩
      · walk_at "wp"
        refine ⟨(s.1, way, wd, h), rfl, ?_⟩
        walk_at "wp"
        refine ⟨(s.2, way, wd, h), rfl, ?_⟩
        walk_at "wp"
        exact ⟨rfl, rfl⟩
      refine go_drop ?_
      refine wp_append ?_
      walk_at "wp"
      refine ⟨du, _, rfl, by walk_at "cell", ?_⟩
      have e3 : ((wkL r).map fun s => PyData.tuple [cD (mvC way wd h s.1), cD (mvC way wd h s.2)]) = ((wkL r).map fun s => (mvC way wd h s.1, mvC way wd h s.2)).map sD := by rw [List.map_map]; rfl
      rw [e3]
      walk_at "wp"
      refine wp_join (fun A1 s => A1 = ⟨I, (du, .lst (((((tkSort rs).take j).map fun r => sortS ((wkL r).map (msD way wd h))).map slD).map .dat)) :: l⟩ ∧ s = .dat (.list (((wkL r).map (msD way wd h)).map sD))) (fun h2 => ?_) (fun h2 => ?_) ?_
      · have h2 : way = 2 := by rw [eq_int] at h2; exact of_decide_eq_true h2
        refine wp_lcA (enc := sD) (xs := (wkL r).map fun s => (mvC way wd h s.1, mvC way wd h s.2)) (by walk_at "to") (fun s => sD (s.2, s.1)) (sz (by rw [List.length_map]; omega)) ?_
        refine iw_list ?_
        walk_at "wp"
        refine ⟨rfl, fun s hs => ?_, ?_⟩
        · walk_at "wp"
          exact ⟨rfl, rfl⟩
        refine ⟨rfl, ?_⟩
        rw [List.map_map, List.map_map]
        refine congrArg (fun z => SV.dat (.list z)) (List.map_congr_left fun s _ => ?_)
        show sD (mvC way wd h s.2, mvC way wd h s.1) = sD (msD way wd h s)
        unfold msD
        rw [if_pos h2]
      · have h2 : way ≠ 2 := by rw [eq_int] at h2; exact of_decide_eq_false h2
        walk_at "wp"
        refine ⟨rfl, ?_⟩
        rw [List.map_map, List.map_map]
        refine congrArg (fun z => SV.dat (.list z)) (List.map_congr_left fun s _ => ?_)
        show sD (mvC way wd h s.1, mvC way wd h s.2) = sD (msD way wd h s)
        unfold msD
        rw [if_neg h2]
      rintro A1 s ⟨rfl, rfl⟩
      walk_at "wp"
      refine cw_frz (cw_sortL (sides_alike _) (sides_sort _) (sides_depth _) fun z => ⟨z, _, _, rfl, .head, ?_⟩)
      refine ⟨_, _, .head, ?_, ?_, _, _, rfl⟩
      · rw [List.length_map, List.length_map, List.length_map, List.length_take]
        have := hsp.length_eq
        exact szl (by omega)
      · rw [← sortS_map, List.take_add_one, hr]
        simp
    · rintro A1 S1 ⟨rfl, x5, x6, rfl⟩
      rw [List.length_map, List.length_map, List.take_length]
      walk_at "wp"
      refine ⟨hVn, hVl, fun rv hRv => ?_⟩
      refine wp_drop ?_
      walk_at "wp"
      refine cw_frz (cw_sortP List.mem_cons_self (sls_alike _) (sls_sort _) (sls_depth _) fun z => ⟨z, _, _, rfl, .head, ?_⟩)
      rw [goes_data hw hV hR hRv hsp]
      refine ⟨du, _, _, .head, ?_⟩
      rw [slSort_map]
      refine rw_eqD (sls_shaped _) (sls_shaped _) ?_
      rw [eqv_refl (by simp only [plainD]; exact sls_plain _)]
      exact hk
def W_between : List SV → Amb → KA → Prop := fun ss A k => ∃ x : List Cl × List Cl, ss = [.dat (.tuple (x.1.map cD)), .dat (.tuple (x.2.map cD))] ∧ x.1.length ≤ 1000 ∧ k A (.dat (.list (((sortS (presides x.1)).filter fun s => decide (rightOf s ∈ x.2)).map sD)))
theorem ok_between (T : Tx w K mg) : FnOk P w K mg base CX0 5 T.f_between T.d_between ["one", "other"] (spW K (W_between)) := by
  refine fn_go T.F_between sc_between (fun ss A k h => ?_) (fun cdv A outer s H E hr => ?_)
  · obtain ⟨i, rfl, _⟩ := h; rfl
  · have hu : (A.deeper (PyProof.Rows.envOfC "between" (defScope s_between) s.heap.objs.size T.f_between cdv)).units + 65 < cLine := by have := hr.un; omega
    have hu1 := hu_of hr
    refine ⟨_, (pss_one (ps_ret (pe_lc (own := [("side", 2)]) rfl sc_between.nd (pi_listK K (pe_call (ok_sides T) (hr.mono (by decide)) (by rfl) T.g_sides T.F_sides.kp T.b_sides .nil pass0 (pa_cons (pv 0) pa_nil))) (blkOk_by (own := [("side", 2)]) (N := NN_between) (sc := (defScope s_between)) (by decide +kernel)) (fun _ _ _ _ _ => (pg_name (i := 2) sc_between.nd rfl (by first | exact Or.inl rfl | exact Or.inr rfl))) (fun _ _ _ _ _ => pts_one (pt_cmpR (op_inK K hu) (pe_call (ok_right_of T) (hr.mono (by decide)) (by rfl) T.g_right_of T.F_right_of.kp T.b_right_of .nil pass0 (pa_cons (pv 2) pa_nil)) (pv 1) rfl)) (fun _ _ _ _ _ => (pv 2))))), ?_⟩
    rintro ss A k ⟨⟨one, other⟩, rfl, hk⟩
    (try dsimp only [cxK] at hk); (try dsimp only [cxK])
    change Go _ _ _ [_, _, SV.no] _
    obtain ⟨hl, hk⟩ := hk
    walk_at "wp"
    refine wp_lcM (enc := sD) (xs := sortS (presides one)) (by walk_at "to") (fun s => decide (rightOf s ∈ other)) sD (by rw [(sortS_perm _).length_eq]; have := presides_len one; exact sz (by omega)) ?_
    refine iw_list ?_
    refine wp_frz ?_
    walk_at "wp"
    refine ⟨hl, fun q => ⟨q, _, _, rfl, .head, ?_⟩⟩
    walk_at "wp"
    refine ⟨by rw [sortS_map]; rfl, fun y hy => ?_, hk⟩
    have s1 := cD_shaped (rightOf y)
    have s2 := cells_shaped other
    unfold LcItem
    walk_at "wp"
    refine ⟨by rw [in_cells], fun _ => ?_, fun _ => rfl⟩
    walk_at "wp"
    exact ⟨rfl, rfl⟩
def W__law_parted : PySem.W.Frag → List SV → Amb → KA → Prop := fun K ss A k => ∃ x : Addr × List Cl, ss = [.ptr x.1, .dat (ctD x.2)] ∧ isDraw K A x.1 ∧ x.2.Nodup ∧ x.2.length ≤ 49 ∧ k A (.dat (.bool true))
theorem ok__law_parted (T : Tx w K mg) : FnOk P w K mg base CX0 6 T.f__law_parted T.d__law_parted ["draw", "region"] (spW K (W__law_parted K)) := by
  refine fn_go T.F__law_parted sc__law_parted (fun ss A k h => ?_) (fun cdv A outer s H E hr => ?_)
  · obtain ⟨i, rfl, _⟩ := h; rfl
  · have hu : (A.deeper (PyProof.Rows.envOfC "_law_parted" (defScope s__law_parted) s.heap.objs.size T.f__law_parted cdv)).units + 65 < cLine := by have := hr.un; omega
    have hu1 := hu_of hr
    refine ⟨_, (pss_cons (ps_set (i := 2) sc__law_parted.nd rfl (Or.inr rfl) (pe_lc (own := [("cell", 6)]) rfl sc__law_parted.nd (pi_tupK K (pv 1)) (blkOk_by (own := [("cell", 6)]) (N := NN__law_parted) (sc := (defScope s__law_parted)) (by decide +kernel)) (fun _ _ _ _ _ => (pg_name (i := 6) sc__law_parted.nd rfl (by first | exact Or.inl rfl | exact Or.inr rfl))) (fun _ _ _ _ _ => pts_nil) (fun _ _ _ _ _ => (pe_call (ok__law_take T) (hr.mono (by decide)) (by rfl) T.g__law_take T.F__law_take.kp T.b__law_take .nil pass0 (pa_cons (pv 0) (pa_cons pe_int pa_nil))))))
      (pss_cons (ps_set (i := 3) sc__law_parted.nd rfl (Or.inl rfl) (pe_callTy (call_tupK K) (by rfl) T.n_tuple (by decide +kernel) (pa_cons (pe_lc (own := [("k", 7)]) rfl sc__law_parted.nd (pi_range1 (by rfl) T.n_range (pa_cons (pe_callB (call_lenK K) (by rfl) T.n_len (by decide +kernel) (pa_cons (pv 1) pa_nil)) pa_nil)) (blkOk_by (own := [("k", 7)]) (N := NN__law_parted) (sc := (defScope s__law_parted)) (by decide +kernel)) (fun _ _ _ _ _ => (pg_name (i := 7) sc__law_parted.nd rfl (by first | exact Or.inl rfl | exact Or.inr rfl))) (fun _ _ _ _ _ => pts_one (pt_cmpR (op_eqK K hu) (pe_ix (ixK K) (pv 2) (pv 7) (fun _ _ => rfl)) pe_int (nomark _))) (fun _ _ _ _ _ => (pe_ix (ixK K) (pv 1) (pv 7) (fun _ _ => rfl)))) pa_nil)))
      (pss_cons (ps_set (i := 4) sc__law_parted.nd rfl (Or.inl rfl) (pe_callTy (call_tupK K) (by rfl) T.n_tuple (by decide +kernel) (pa_cons (pe_lc (own := [("k", 7)]) rfl sc__law_parted.nd (pi_range1 (by rfl) T.n_range (pa_cons (pe_callB (call_lenK K) (by rfl) T.n_len (by decide +kernel) (pa_cons (pv 1) pa_nil)) pa_nil)) (blkOk_by (own := [("k", 7)]) (N := NN__law_parted) (sc := (defScope s__law_parted)) (by decide +kernel)) (fun _ _ _ _ _ => (pg_name (i := 7) sc__law_parted.nd rfl (by first | exact Or.inl rfl | exact Or.inr rfl))) (fun _ _ _ _ _ => pts_one (pt_cmpR (op_eqK K hu) (pe_ix (ixK K) (pv 2) (pv 7) (fun _ _ => rfl)) pe_int (nomark _))) (fun _ _ _ _ _ => (pe_ix (ixK K) (pv 1) (pv 7) (fun _ _ => rfl)))) pa_nil)))
      (pss_cons (ps_if (PW.pt (pw_or (pt_cmpR (op_eqEK K hu) (pv 3) (pe_tup pa_nil) (nomark _)) (pw_or1 (pt_cmpR (op_eqEK K hu) (pv 4) (pe_tup pa_nil) (nomark _)))))
        (pss_one (ps_ret pe_bl))
        pss_nil)
      (pss_cons (ps_set (i := 5) sc__law_parted.nd rfl (Or.inl rfl) (pe_op op_cat (pe_op op_cat (pe_call (ok_sides T) (hr.mono (by decide)) (by rfl) T.g_sides T.F_sides.kp T.b_sides .nil pass0 (pa_cons (pv 1) pa_nil)) (pe_call (ok_between T) (hr.mono (by decide)) (by rfl) T.g_between T.F_between.kp T.b_between .nil pass0 (pa_cons (pv 3) (pa_cons (pv 4) pa_nil)))) (pe_call (ok_between T) (hr.mono (by decide)) (by rfl) T.g_between T.F_between.kp T.b_between .nil pass0 (pa_cons (pv 4) (pa_cons (pv 3) pa_nil)))))
      (pss_one (ps_ret (pe_cmpR (op_eqK K hu) (pe_callB (cr_sortK K hu) (by rfl) T.n_sorted (by decide +kernel) (pa_cons (pv 5) pa_nil)) (pe_callB (cr_sortK K hu) (by rfl) T.n_sorted (by decide +kernel) (pa_cons (pe_op op_cat (pe_call (ok_sides T) (hr.mono (by decide)) (by rfl) T.g_sides T.F_sides.kp T.b_sides .nil pass0 (pa_cons (pv 3) pa_nil)) (pe_call (ok_sides T) (hr.mono (by decide)) (by rfl) T.g_sides T.F_sides.kp T.b_sides .nil pass0 (pa_cons (pv 4) pa_nil))) pa_nil)) (nomark _))))))))), ?_⟩
    rintro ss A k ⟨⟨p, cs⟩, rfl, hk⟩
    (try dsimp only [cxK] at hk); (try dsimp only [cxK])
    change Go _ _ _ [_, _, SV.no, SV.no, SV.no, SV.no, SV.no, SV.no] _
    obtain ⟨hI, hn, hl, hk⟩ := hk
    have hk : k A (.dat (.bool true)) := hk
    have hn : cs.Nodup := hn
    have hl : cs.length ≤ 49 := hl
    walk_at "wp"
    refine wp_lc (by walk_at "to") ?_
    refine iw_tup ?_
    walk_at "wp"
    refine ⟨fun i A1 acc => A1 = A ∧ i ≤ 49 ∧ ∃ ms : List Int, acc = (ms.map PyData.int).map .dat ∧ ms.length = i ∧ ∀ m ∈ ms, m = 0 ∨ m = 1, ⟨rfl, by omega, [], rfl, rfl, by simp⟩, ?_, ?_⟩
    · intro i s hs A1 acc
      rintro ⟨rfl, hi, ms, rfl, hlm, hms⟩
      obtain ⟨c, hc, rfl⟩ := get_enc hs
      have hi2 := (List.getElem?_eq_some_iff.mp hc).1
      walk_at "wp"
      refine ⟨fun _ => ?_, fun h => by cases h⟩
      walk_at "wp"
      refine ⟨(p, 2), rfl, hI, by simp, by simp, fun m m0 m1 => ?_⟩
      have m1 : m < 2 := m1
      refine ⟨by rw [List.length_map, List.length_map]; exact szl (by omega), rfl, by omega, ms ++ [m], by simp, by simp [hlm], fun x hx => ?_⟩
      rcases List.mem_append.mp hx with hx | hx
      · exact hms x hx
      · have : x = m := by simpa using hx
        omega
    rintro A1 acc ⟨rfl, hi, ms, rfl, hlm, hms⟩
    refine ⟨_, rfl, ?_⟩
    simp only [List.length_map] at hlm
    walk_at "wp"
    have e1 : ∀ k, k < cs.length → atI (ms.map PyData.int) (0 + (k : Int)) = some (.int (ms.getD k 0)) := fun k hk => by
      rw [Int.zero_add, atI_map]
      have : atI ms (k : Int) = some (ms.getD k 0) := by
        unfold atI ixN
        rw [if_pos (by omega), if_pos (by omega)]
        show ms[k]? = _
        rw [List.getD_eq_getElem?_getD, List.getElem?_eq_getElem (by omega)]
        rfl
      rw [this]
      rfl
    have e2 : ∀ k, k < cs.length → atI (cs.map cD) (0 + (k : Int)) = some (cD (cs.getD k (0, 0))) := fun k hk => by
      rw [Int.zero_add, atI_map]
      have : atI cs (k : Int) = some (cs.getD k (0, 0)) := by
        unfold atI ixN
        rw [if_pos (by omega), if_pos (by omega)]
        exact getD_nth hk
      rw [this]
      rfl
    have hpk := picks_two (bs := cs) (ms := ms) (fun k hk => hms _ (getD_mem (by omega)))
    refine wp_lcM (enc := fun (j : Nat) => PyData.int (0 + (j : Int))) (xs := List.range cs.length) (by walk_at "to") (fun k => decide (ms.getD k 0 = 0)) (fun k => cD (cs.getD k (0, 0))) (by rw [List.length_range]; exact sz (by omega)) ?_
    refine iw_rng1 ?_
    walk_at "wp"
    refine cw_lenT ?_
    rw [List.length_map]
    walk_at "wp"
    refine ⟨by omega, by omega, by rw [Int.toNat_natCast]; exact irange_enc 0 _, fun k hk => ?_, ?_⟩
    · have hk := List.mem_range.mp hk
      unfold LcItem
      walk_at "wp"
      refine rw_ixL (e1 k hk) ?_
      walk_at "wp"
      refine ⟨eq_int _ _, fun _ => ?_, fun _ => rfl⟩
      walk_at "wp"
      refine rw_ixT (e2 k hk) ?_
      exact ⟨rfl, rfl⟩
    walk_at "wp"
    refine cw_tupD (.inl rfl) ?_
    walk_at "wp"
    refine wp_lcM (enc := fun (j : Nat) => PyData.int (0 + (j : Int))) (xs := List.range cs.length) (by walk_at "to") (fun k => decide (ms.getD k 0 = 1)) (fun k => cD (cs.getD k (0, 0))) (by rw [List.length_range]; exact sz (by omega)) ?_
    refine iw_rng1 ?_
    walk_at "wp"
    refine cw_lenT ?_
    rw [List.length_map]
    walk_at "wp"
    refine ⟨by omega, by omega, by rw [Int.toNat_natCast]; exact irange_enc 0 _, fun k hk => ?_, ?_⟩
    · have hk := List.mem_range.mp hk
      unfold LcItem
      walk_at "wp"
      refine rw_ixL (e1 k hk) ?_
      walk_at "wp"
      refine ⟨eq_int _ _, fun _ => ?_, fun _ => rfl⟩
      walk_at "wp"
      refine rw_ixT (e2 k hk) ?_
      exact ⟨rfl, rfl⟩
    walk_at "wp"
    refine cw_tupD (.inl rfl) ?_
    walk_at "wp"
    have e3 : ∀ m, ((List.range cs.length).filter fun k => decide (ms.getD k 0 = m)).map (fun k => cD (cs.getD k (0, 0))) = (picks cs ms m).map cD := fun m => by unfold picks; rw [List.map_map]; rfl
    rw [e3 0, e3 1]
    generalize picks cs ms 0 = P at hpk
    generalize picks cs ms 1 = Q at hpk
    have hlen := hpk.length_eq
    rw [List.length_append] at hlen
    have hPn : P.Nodup := (List.nodup_append.mp (hpk.nodup_iff.mpr hn)).1
    have hQn : Q.Nodup := (List.nodup_append.mp (hpk.nodup_iff.mpr hn)).2.1
    refine wpt_or ?_
    walk_at "wp"
    refine rw_eqE ?_
    refine ⟨_, rfl, fun _ => ?_, fun _ => ?_⟩
    · refine ⟨fun _ => ?_, fun h => by cases h⟩
      walk_at "wp"
      exact hk
    walk_at "wp"
    refine rw_eqE ?_
    refine ⟨_, rfl, fun _ => ?_, fun _ => ?_⟩
    · walk_at "wp"
      exact hk
    have hps := parts_sides hn hpk
    have l1 := S_len hl
    have l2 := S_len (show P.length ≤ 49 by omega)
    have l3 := S_len (show Q.length ≤ 49 by omega)
    have l4 := List.length_filter_le (fun s => decide (rightOf s ∈ Q)) (Sds P)
    have l5 := List.length_filter_le (fun s => decide (rightOf s ∈ P)) (Sds Q)
    walk_at "wp1"
    refine go_seq ?_
    refine go_set ?_
    refine wp_op ?_
    refine wp_op ?_
    refine wp_frz ?_
    walk_at "wp"
    refine ⟨by omega, fun z => ⟨z, _, _, rfl, .head, ?_⟩⟩
    rw [← S_data cs]
    walk_at "wp"
    refine ⟨(P, Q), rfl, by show P.length ≤ 1000; omega, ?_⟩
    show RW K rCat (.dat (.list ((Sds cs).map sD))) (.dat (.list (((Sds P).filter fun s => decide (rightOf s ∈ Q)).map sD))) _ _
    refine rw_cat (sz (by rw [List.length_map, List.length_map]; omega)) ?_
    walk_at "wp"
    refine ⟨(Q, P), rfl, by show Q.length ≤ 1000; omega, ?_⟩
    show RW K rCat (.dat (.list ((Sds cs).map sD ++ ((Sds P).filter fun s => decide (rightOf s ∈ Q)).map sD))) (.dat (.list (((Sds Q).filter fun s => decide (rightOf s ∈ P)).map sD))) _ _
    refine rw_cat (sz (by rw [List.length_append, List.length_map, List.length_map, List.length_map]; omega)) ?_
    rw [← List.map_append, ← List.map_append]
    walk_at "wp"
    refine cw_frz (cw_sortL (sides_alike _) (sides_sort _) (sides_depth _) fun z => ⟨z, _, _, rfl, .head, ?_⟩)
    walk_at "wp1"
    refine wpa_cons ?_
    refine wp_op ?_
    refine wp_frz ?_
    walk_at "wp"
    refine ⟨by omega, fun z => ⟨z, _, _, rfl, .head, ?_⟩⟩
    rw [← S_data P]
    refine wp_frz ?_
    walk_at "wp"
    refine ⟨by omega, fun z => ⟨z, _, _, rfl, .head, ?_⟩⟩
    rw [← S_data Q]
    refine rw_cat (sz (by rw [List.length_map, List.length_map]; omega)) ?_
    rw [← List.map_append]
    walk_at "wp"
    refine cw_frz (cw_sortL (sides_alike _) (sides_sort _) (sides_depth _) fun z => ⟨z, _, _, rfl, .head, ?_⟩)
    rw [← sortS_map, ← sortS_map, sortS_eq hps]
    refine rw_eqD (sdsL_shaped _) (sdsL_shaped _) ?_
    rw [eq_sides, decide_eq_true rfl]
    exact hk
theorem law_go (T : Tx w K mg) : LawGo P w K mg T.f_law "law" s_law NN_law 7 63 := by
  intro base cdv s H hr
  have hu : (callerA.deeper (PyProof.Rows.envOfC "law" (defScope s_law) s.heap.objs.size T.f_law cdv)).units + 65 < cLine := by have := hr.un; omega
  have hu1 := hu_of hr
  have hg : (callerA.deeper (PyProof.Rows.envOfC "law" (defScope s_law) s.heap.objs.size T.f_law cdv)).guards = some [] := rfl
  refine ⟨_, (pss_cons (ps_set (i := 1) sc_law.nd rfl (Or.inl rfl) (pe_call (ok__law_begun T) (hr.mono (by decide)) (by rfl) T.g__law_begun T.F__law_begun.kp T.b__law_begun .nil pass0 (pa_cons (pv 0) pa_nil)))
      (pss_cons (ps_for PassesOwn.never rfl (pi_range1 (by rfl) T.n_range (pa_cons pe_int pa_nil)) (pg_name (i := 2) sc_law.nd rfl (Or.inl rfl))
        (pss_cons (ps_asg (pe_call (ok__law_size T) (hr.mono (by decide)) (by rfl) T.g__law_size T.F__law_size.kp T.b__law_size .nil pass0 (pa_cons (pv 1) pa_nil)) (pg_tupK K 2 rfl (pgs_cons (pg_name (i := 3) sc_law.nd rfl (Or.inr rfl)) (pgs_cons (pg_name (i := 4) sc_law.nd rfl (Or.inr rfl)) pgs_nil))))
          (pss_cons (ps_set (i := 5) sc_law.nd rfl (Or.inr rfl) (pe_call (ok__law_region T) (hr.mono (by decide)) (by rfl) T.g__law_region T.F__law_region.kp T.b__law_region .nil pass0 (pa_cons (pv 1) (pa_cons (pv 3) (pa_cons (pv 4) pa_nil)))))
          (pss_cons (ps_if (pt_cmpR (op_neK K hu) (pe_lc (own := [("way", 8)]) rfl sc_law.nd (pi_range1 (by rfl) T.n_range (pa_cons pe_int pa_nil)) (blkOk_by (own := [("way", 8)]) (N := NN_law) (sc := (defScope s_law)) (by decide +kernel)) (fun _ _ _ _ _ => (pg_name (i := 8) sc_law.nd rfl (by first | exact Or.inl rfl | exact Or.inr rfl))) (fun _ _ _ _ _ => pts_one (pt_not (pt_val (pe_call (ok__law_goes_with T) (hr.mono (by decide)) (by rfl) T.g__law_goes_with T.F__law_goes_with.kp T.b__law_goes_with .nil pass0 (pa_cons (pv 5) (pa_cons (pv 8) (pa_cons (pe_tup (pa_cons (pv 3) (pa_cons (pv 4) pa_nil))) pa_nil))))))) (fun _ _ _ _ _ => (pv 8))) (pe_lst pa_nil) (nomark _))
            (pss_one (ps_ret pe_bl))
            pss_nil)
          (pss_cons (ps_if (pt_not (pt_val (pe_call (ok__law_parted T) (hr.mono (by decide)) (by rfl) T.g__law_parted T.F__law_parted.kp T.b__law_parted .nil pass0 (pa_cons (pv 1) (pa_cons (pv 5) pa_nil)))))
            (pss_one (ps_ret pe_bl))
            pss_nil)
          (pss_cons (ps_set (i := 6) sc_law.nd rfl (Or.inl rfl) (pe_lst pa_nil))
          (pss_cons (ps_for PassesOwn.never rfl (pi_listK K (pe_call (ok_pieces T) (hr.mono (by decide)) (by rfl) T.g_pieces T.F_pieces.kp T.b_pieces .nil pass0 (pa_cons (pv 5) pa_nil))) (pg_name (i := 7) sc_law.nd rfl (Or.inl rfl))
            (pss_one (ps_set (i := 6) sc_law.nd rfl (Or.inl rfl) (pe_op op_cat (pv 6) (pe_call (ok_rings T) (hr.mono (by decide)) (by rfl) T.g_rings T.F_rings.kp T.b_rings .nil pass0 (pa_cons (pv 7) pa_nil))))))
          (pss_one (ps_if (pt_cmpR (op_neK K hu) (pe_callB (cr_sortK K hu) (by rfl) T.n_sorted (by decide +kernel) (pa_cons (pv 6) pa_nil)) (pe_call (ok_rings T) (hr.mono (by decide)) (by rfl) T.g_rings T.F_rings.kp T.b_rings .nil pass0 (pa_cons (pv 5) pa_nil)) (nomark _))
            (pss_one (ps_ret pe_bl))
            pss_nil)))))))))
      (pss_one (ps_ret pe_bl)))), ?_⟩
  intro ns hns hbits
  try dsimp only [cxK]
  change Go _ _ _ [_, SV.no, SV.no, SV.no, SV.no, SV.no, SV.no, SV.no, SV.no] _
  walk_at "wp"
  intro p q
  walk_at "wp1"
  refine go_seal (ps := [p, q]) (C := drawOk q ns) (cs := [.dk (drawDK q 0 0 0 91), .lst (numsSV ns)]) (l := []) ⟨0, 0, 0, 91, rfl, by decide, by decide, by decide, by decide, by decide⟩ rfl ?_
  have hI : isDraw K ⟨Blk.of K [p, q] (drawOk q ns), []⟩ p := ⟨q, ns, hns, rfl⟩
  refine go_forR (n := 3) ?_
  refine iw_rng1 ?_
  walk_at "wp"
  refine ⟨by decide, by decide, rfl, fun i A1 S1 => A1 = ⟨Blk.of K [p, q] (drawOk q ns), []⟩ ∧ ∃ x2 x3 x4 x5 x6 x7, S1 = [.scr ns, .ptr p, x2, x3, x4, x5, x6, x7, .no], ⟨rfl, _, _, _, _, _, _, rfl⟩, ?_, ?_⟩
  · rintro i A1 S1 hi ⟨rfl, x2, x3, x4, x5, x6, x7, rfl⟩
    walk_at "wp"
    refine ⟨hI, fun wd h w1 w2 h1 h2 => ?_⟩
    walk_at "wp"
    refine ⟨(p, wd, h), rfl, hI, ⟨w1, w2⟩, ⟨h1, h2⟩, fun cs hc hcr hcb => ?_⟩
    have hn := hcr.nodup
    have hl := hc.len
    walk_at "wp"
    refine wp_lcM (enc := fun (j : Nat) => PyData.int (0 + (j : Int))) (xs := List.range 3) (by walk_at "to") (fun _ => false) (fun j => PyData.int (0 + (j : Int))) (sz64 rfl) ?_
    refine iw_rng1 ?_
    walk_at "wp"
    refine ⟨by omega, by omega, irange_enc 0 _, fun j hj => ?_, ?_⟩
    · have hj := List.mem_range.mp hj
      unfold LcItem
      walk_at "wp"
      refine ⟨(cs, 0 + (j : Int), wd, h), rfl, hn, hl, by show 0 + (j : Int) = 0 ∨ 0 + (j : Int) = 1 ∨ 0 + (j : Int) = 2; omega, ?_⟩
      refine ⟨_, rfl, rfl, fun e => Bool.noConfusion e, fun _ => rfl⟩
    have e0 : (List.map (fun j : Nat => PyData.int (0 + (j : Int))) (List.filter (fun _ => false) (List.range 3))) = [] := rfl
    rw [e0]
    walk_at "wp"
    refine ⟨fun e => Bool.noConfusion e, fun _ => ?_⟩
    walk_at "wp"
    refine ⟨(p, cs), rfl, hI, hn, hl, ?_⟩
    refine ⟨_, rfl, fun e => Bool.noConfusion e, fun _ => ?_⟩
    walk_at "wp"
    refine go_for ?_
    refine iw_list ?_
    refine wp_frz ?_
    walk_at "wp"
    refine ⟨hcr, by omega, fun ps hps hpl z => ⟨z, _, _, rfl, .head, ?_⟩⟩
    rw [csSort_map]
    have hqs := csSort_perm ps
    have hql := hqs.length_eq
    refine ⟨_, rfl, fun j A1 S1 => (∀ P ∈ (csSort ps).take j, Rings P (rOf P)) ∧ A1 = ⟨Blk.of K [p, q] (drawOk q ns), []⟩ ∧ ∃ x7, S1 = [.scr ns, .ptr p, .dat (.int i), .dat (.int wd), .dat (.int h), .dat (ctD cs), .dat (.list ((((csSort ps).take j).flatMap fun P => tkSort (rOf P)).map tkD)), x7, .no], ⟨by simp, rfl, _, rfl⟩, ?_, ?_⟩
    · rintro j s A1 S1 hs ⟨hall, rfl, x7, rfl⟩
      obtain ⟨P, hP, rfl⟩ := get_enc hs
      have hPm := List.mem_of_getElem? hP
      obtain ⟨a, ha, eP⟩ := (hps.is P).mp (hqs.mem_iff.mp hPm)
      have hPn : P.Nodup := by rw [eP]; exact (comp_ris hcr a).nodup
      have hPl : P.length ≤ 49 := by rw [eP]; exact Nat.le_trans (List.length_filter_le _ _) hl
      have hfl := flat_len (n := 98) (l := (csSort ps).take j) (f := fun P => tkSort (rOf P)) fun P hP => by
        rw [(tkSort_perm _).length_eq]
        exact (hall P hP).many
      have hjl : ((csSort ps).take j).length ≤ 100 := by rw [List.length_take]; omega
      refine gw_name ?_
      refine go_set ?_
      refine wp_op ?_
      walk_at "wp1"
      refine wp_frz ?_
      walk_at "wp"
      refine ⟨hPn, hPl, fun z rs ho => ⟨z, _, _, rfl, .head, ?_⟩⟩
      have hR := rings_of hPl ho
      obtain rfl := rOf_is hR
      have hmany := hR.many
      rw [tkSort_map]
      refine rw_cat (sz (by rw [List.length_map, List.length_map, (tkSort_perm _).length_eq]; omega)) ?_
      refine ⟨fun X hX => ?_, rfl, .dat (ctD P), ?_⟩
      · rw [List.take_add_one, hP] at hX
        rcases List.mem_append.mp hX with hX | hX
        · exact hall X hX
        · have : X = P := by simpa using hX
          rw [this]
          exact hR
      · rw [← List.map_append]
        have : ((csSort ps).take (j + 1)).flatMap (fun P => tkSort (rOf P)) = ((csSort ps).take j).flatMap (fun P => tkSort (rOf P)) ++ tkSort (rOf P) := by
          rw [List.take_add_one, hP, List.flatMap_append]
          simp
        rw [this]
        rfl
    · rintro A1 S1 ⟨hall, rfl, x7, rfl⟩
      rw [List.length_map, List.length_map, List.take_length] at hall
      rw [List.length_map, List.length_map, List.take_length]
      have hsh : ∀ r ∈ (csSort ps).flatMap (fun P => tkSort (rOf P)), Shown r (wk r) := fun r hr => by
        obtain ⟨P, hP, h⟩ := List.mem_flatMap.mp hr
        exact (hall P hP).shown r ((tkSort_perm _).mem_iff.mp h)
      have hpm : (((csSort ps).flatMap (fun P => tkSort (rOf P))).map tk).Perm ((csSort ps).flatMap fun P => (rOf P).map tk) := by
        rw [List.map_flatMap]
        exact flat_perm _ _ _ fun P _ => (tkSort_perm _).map tk
      generalize (csSort ps).flatMap (fun P => tkSort (rOf P)) = us at hsh hpm ⊢
      have hal : PySem.W.AllAlike (us.map tkD) := by
        have := pieces_alike (us.map tk)
        rw [List.map_map] at this
        exact this
      have hso : PySem.W.Sortable (us.map tkD) := by
        have := pieces_sort (ps := us.map tk) fun p hp => by
          obtain ⟨r, hr, rfl⟩ := List.mem_map.mp hp
          rw [(hsh r hr).tk_]
          simp
        rw [List.map_map] at this
        exact this
      have hde : ∀ d ∈ us.map tkD, d.depth ≤ 60 := fun d hd => by
        obtain ⟨r, _, rfl⟩ := List.mem_map.mp hd
        exact Nat.le_trans (ct_depth (tk r)) (by decide)
      walk_at "wp"
      refine cw_frz (cw_sortL hal hso hde fun z4 => ⟨z4, _, _, rfl, .head, ?_⟩)
      refine wp_frz ?_
      walk_at "wp"
      refine ⟨hn, hl, fun z5 ru hou => ⟨z5, _, _, rfl, .head, ?_⟩⟩
      have hRu := rings_of hl hou
      have h1 := (rings_pieces hps hqs hRu hall).trans hpm.symm
      have h2 := h1.map ctD
      have e4 : dsort (us.map tkD) = (tkSort ru).map tkD := by
        rw [← tkSort_map]
        refine dsort_eq ?_ hal (by have := tksL_plain us; simpa only [plainD] using this)
        have h3 := h2.symm
        rw [List.map_map] at h3
        exact h3
      rw [e4, tkSort_map]
      refine rw_neD (tksL_shaped _) (tksL_shaped _) ?_
      rw [eqv_refl (tksL_plain _)]
      refine ⟨_, rfl, fun e => Bool.noConfusion e, fun _ => ?_⟩
      walk_at "wp"
      exact ⟨rfl, _, _, _, _, _, _, rfl⟩
  · rintro A1 S1 ⟨rfl, x2, x3, x4, x5, x6, x7, rfl⟩
    walk_at "wp"
    rfl
end
theorem all_mk {l : PySem.W.OpenLaw} {w : World} {K : PySem.W.Frag} {h : Heap} {mg : Str → Option Value} {fa f_going f_left_of f_right_of f_round_cell f_sides f_next_side f_turned_at f_rings f_round_of f_piece_of f_pieces f__law_begun f__law_take f__law_pick f__law_box f__law_kept f__law_region f__law_size f_steps_to f_ring_sides f__law_moved f__law_cell_moved f__law_as_sets f__law_goes_with f_between f__law_parted f_law : Addr} (X : K.In h) (G : h.Ns mainGlobals mg) (hfa : mg "law" = some (.ref fa))
    {od_going an_going : Option Addr} {sl_going : Array (Option Value)} {oc_going kV_going dc_going pm_going cd_going ct_going : Value}
    (a_going : PySem.W.nsIn K mainGlobals "going" = some (some (.ref f_going))) (l_going : K.lookup f_going = some ⟨oc_going, od_going, .func (PySem.W.fnOf "going" "going" (defArgs s_going) (defBody s_going) (defScope s_going) .none kV_going dc_going pm_going an_going cd_going ct_going), sl_going⟩) (c_going : PySem.W.codeIn K cd_going "going" = true) (k_going : PySem.W.keepIn K (.ref f_going) = true)
    {od_left_of an_left_of : Option Addr} {sl_left_of : Array (Option Value)} {oc_left_of kV_left_of dc_left_of pm_left_of cd_left_of ct_left_of : Value}
    (a_left_of : PySem.W.nsIn K mainGlobals "left_of" = some (some (.ref f_left_of))) (l_left_of : K.lookup f_left_of = some ⟨oc_left_of, od_left_of, .func (PySem.W.fnOf "left_of" "left_of" (defArgs s_left_of) (defBody s_left_of) (defScope s_left_of) .none kV_left_of dc_left_of pm_left_of an_left_of cd_left_of ct_left_of), sl_left_of⟩) (c_left_of : PySem.W.codeIn K cd_left_of "left_of" = true) (k_left_of : PySem.W.keepIn K (.ref f_left_of) = true)
    {od_right_of an_right_of : Option Addr} {sl_right_of : Array (Option Value)} {oc_right_of kV_right_of dc_right_of pm_right_of cd_right_of ct_right_of : Value}
    (a_right_of : PySem.W.nsIn K mainGlobals "right_of" = some (some (.ref f_right_of))) (l_right_of : K.lookup f_right_of = some ⟨oc_right_of, od_right_of, .func (PySem.W.fnOf "right_of" "right_of" (defArgs s_right_of) (defBody s_right_of) (defScope s_right_of) .none kV_right_of dc_right_of pm_right_of an_right_of cd_right_of ct_right_of), sl_right_of⟩) (c_right_of : PySem.W.codeIn K cd_right_of "right_of" = true) (k_right_of : PySem.W.keepIn K (.ref f_right_of) = true)
    {od_round_cell an_round_cell : Option Addr} {sl_round_cell : Array (Option Value)} {oc_round_cell kV_round_cell dc_round_cell pm_round_cell cd_round_cell ct_round_cell : Value}
    (a_round_cell : PySem.W.nsIn K mainGlobals "round_cell" = some (some (.ref f_round_cell))) (l_round_cell : K.lookup f_round_cell = some ⟨oc_round_cell, od_round_cell, .func (PySem.W.fnOf "round_cell" "round_cell" (defArgs s_round_cell) (defBody s_round_cell) (defScope s_round_cell) .none kV_round_cell dc_round_cell pm_round_cell an_round_cell cd_round_cell ct_round_cell), sl_round_cell⟩) (c_round_cell : PySem.W.codeIn K cd_round_cell "round_cell" = true) (k_round_cell : PySem.W.keepIn K (.ref f_round_cell) = true)
    {od_sides an_sides : Option Addr} {sl_sides : Array (Option Value)} {oc_sides kV_sides dc_sides pm_sides cd_sides ct_sides : Value}
    (a_sides : PySem.W.nsIn K mainGlobals "sides" = some (some (.ref f_sides))) (l_sides : K.lookup f_sides = some ⟨oc_sides, od_sides, .func (PySem.W.fnOf "sides" "sides" (defArgs s_sides) (defBody s_sides) (defScope s_sides) .none kV_sides dc_sides pm_sides an_sides cd_sides ct_sides), sl_sides⟩) (c_sides : PySem.W.codeIn K cd_sides "sides" = true) (k_sides : PySem.W.keepIn K (.ref f_sides) = true)
    {od_next_side an_next_side : Option Addr} {sl_next_side : Array (Option Value)} {oc_next_side kV_next_side dc_next_side pm_next_side cd_next_side ct_next_side : Value}
    (a_next_side : PySem.W.nsIn K mainGlobals "next_side" = some (some (.ref f_next_side))) (l_next_side : K.lookup f_next_side = some ⟨oc_next_side, od_next_side, .func (PySem.W.fnOf "next_side" "next_side" (defArgs s_next_side) (defBody s_next_side) (defScope s_next_side) .none kV_next_side dc_next_side pm_next_side an_next_side cd_next_side ct_next_side), sl_next_side⟩) (c_next_side : PySem.W.codeIn K cd_next_side "next_side" = true) (k_next_side : PySem.W.keepIn K (.ref f_next_side) = true)
    {od_turned_at an_turned_at : Option Addr} {sl_turned_at : Array (Option Value)} {oc_turned_at kV_turned_at dc_turned_at pm_turned_at cd_turned_at ct_turned_at : Value}
    (a_turned_at : PySem.W.nsIn K mainGlobals "turned_at" = some (some (.ref f_turned_at))) (l_turned_at : K.lookup f_turned_at = some ⟨oc_turned_at, od_turned_at, .func (PySem.W.fnOf "turned_at" "turned_at" (defArgs s_turned_at) (defBody s_turned_at) (defScope s_turned_at) .none kV_turned_at dc_turned_at pm_turned_at an_turned_at cd_turned_at ct_turned_at), sl_turned_at⟩) (c_turned_at : PySem.W.codeIn K cd_turned_at "turned_at" = true) (k_turned_at : PySem.W.keepIn K (.ref f_turned_at) = true)
    {od_rings an_rings : Option Addr} {sl_rings : Array (Option Value)} {oc_rings kV_rings dc_rings pm_rings cd_rings ct_rings : Value}
    (a_rings : PySem.W.nsIn K mainGlobals "rings" = some (some (.ref f_rings))) (l_rings : K.lookup f_rings = some ⟨oc_rings, od_rings, .func (PySem.W.fnOf "rings" "rings" (defArgs s_rings) (defBody s_rings) (defScope s_rings) .none kV_rings dc_rings pm_rings an_rings cd_rings ct_rings), sl_rings⟩) (c_rings : PySem.W.codeIn K cd_rings "rings" = true) (k_rings : PySem.W.keepIn K (.ref f_rings) = true)
    {od_round_of an_round_of : Option Addr} {sl_round_of : Array (Option Value)} {oc_round_of kV_round_of dc_round_of pm_round_of cd_round_of ct_round_of : Value}
    (a_round_of : PySem.W.nsIn K mainGlobals "round_of" = some (some (.ref f_round_of))) (l_round_of : K.lookup f_round_of = some ⟨oc_round_of, od_round_of, .func (PySem.W.fnOf "round_of" "round_of" (defArgs s_round_of) (defBody s_round_of) (defScope s_round_of) .none kV_round_of dc_round_of pm_round_of an_round_of cd_round_of ct_round_of), sl_round_of⟩) (c_round_of : PySem.W.codeIn K cd_round_of "round_of" = true) (k_round_of : PySem.W.keepIn K (.ref f_round_of) = true)
    {od_piece_of an_piece_of : Option Addr} {sl_piece_of : Array (Option Value)} {oc_piece_of kV_piece_of dc_piece_of pm_piece_of cd_piece_of ct_piece_of : Value}
    (a_piece_of : PySem.W.nsIn K mainGlobals "piece_of" = some (some (.ref f_piece_of))) (l_piece_of : K.lookup f_piece_of = some ⟨oc_piece_of, od_piece_of, .func (PySem.W.fnOf "piece_of" "piece_of" (defArgs s_piece_of) (defBody s_piece_of) (defScope s_piece_of) .none kV_piece_of dc_piece_of pm_piece_of an_piece_of cd_piece_of ct_piece_of), sl_piece_of⟩) (c_piece_of : PySem.W.codeIn K cd_piece_of "piece_of" = true) (k_piece_of : PySem.W.keepIn K (.ref f_piece_of) = true)
    {od_pieces an_pieces : Option Addr} {sl_pieces : Array (Option Value)} {oc_pieces kV_pieces dc_pieces pm_pieces cd_pieces ct_pieces : Value}
    (a_pieces : PySem.W.nsIn K mainGlobals "pieces" = some (some (.ref f_pieces))) (l_pieces : K.lookup f_pieces = some ⟨oc_pieces, od_pieces, .func (PySem.W.fnOf "pieces" "pieces" (defArgs s_pieces) (defBody s_pieces) (defScope s_pieces) .none kV_pieces dc_pieces pm_pieces an_pieces cd_pieces ct_pieces), sl_pieces⟩) (c_pieces : PySem.W.codeIn K cd_pieces "pieces" = true) (k_pieces : PySem.W.keepIn K (.ref f_pieces) = true)
    {od__law_begun an__law_begun : Option Addr} {sl__law_begun : Array (Option Value)} {oc__law_begun kV__law_begun dc__law_begun pm__law_begun cd__law_begun ct__law_begun : Value}
    (a__law_begun : PySem.W.nsIn K mainGlobals "_law_begun" = some (some (.ref f__law_begun))) (l__law_begun : K.lookup f__law_begun = some ⟨oc__law_begun, od__law_begun, .func (PySem.W.fnOf "_law_begun" "_law_begun" (defArgs s__law_begun) (defBody s__law_begun) (defScope s__law_begun) .none kV__law_begun dc__law_begun pm__law_begun an__law_begun cd__law_begun ct__law_begun), sl__law_begun⟩) (c__law_begun : PySem.W.codeIn K cd__law_begun "_law_begun" = true) (k__law_begun : PySem.W.keepIn K (.ref f__law_begun) = true)
    {od__law_take an__law_take : Option Addr} {sl__law_take : Array (Option Value)} {oc__law_take kV__law_take dc__law_take pm__law_take cd__law_take ct__law_take : Value}
    (a__law_take : PySem.W.nsIn K mainGlobals "_law_take" = some (some (.ref f__law_take))) (l__law_take : K.lookup f__law_take = some ⟨oc__law_take, od__law_take, .func (PySem.W.fnOf "_law_take" "_law_take" (defArgs s__law_take) (defBody s__law_take) (defScope s__law_take) .none kV__law_take dc__law_take pm__law_take an__law_take cd__law_take ct__law_take), sl__law_take⟩) (c__law_take : PySem.W.codeIn K cd__law_take "_law_take" = true) (k__law_take : PySem.W.keepIn K (.ref f__law_take) = true)
    {od__law_pick an__law_pick : Option Addr} {sl__law_pick : Array (Option Value)} {oc__law_pick kV__law_pick dc__law_pick pm__law_pick cd__law_pick ct__law_pick : Value}
    (a__law_pick : PySem.W.nsIn K mainGlobals "_law_pick" = some (some (.ref f__law_pick))) (l__law_pick : K.lookup f__law_pick = some ⟨oc__law_pick, od__law_pick, .func (PySem.W.fnOf "_law_pick" "_law_pick" (defArgs s__law_pick) (defBody s__law_pick) (defScope s__law_pick) .none kV__law_pick dc__law_pick pm__law_pick an__law_pick cd__law_pick ct__law_pick), sl__law_pick⟩) (c__law_pick : PySem.W.codeIn K cd__law_pick "_law_pick" = true) (k__law_pick : PySem.W.keepIn K (.ref f__law_pick) = true)
    {od__law_box an__law_box : Option Addr} {sl__law_box : Array (Option Value)} {oc__law_box kV__law_box dc__law_box pm__law_box cd__law_box ct__law_box : Value}
    (a__law_box : PySem.W.nsIn K mainGlobals "_law_box" = some (some (.ref f__law_box))) (l__law_box : K.lookup f__law_box = some ⟨oc__law_box, od__law_box, .func (PySem.W.fnOf "_law_box" "_law_box" (defArgs s__law_box) (defBody s__law_box) (defScope s__law_box) .none kV__law_box dc__law_box pm__law_box an__law_box cd__law_box ct__law_box), sl__law_box⟩) (c__law_box : PySem.W.codeIn K cd__law_box "_law_box" = true) (k__law_box : PySem.W.keepIn K (.ref f__law_box) = true)
    {od__law_kept an__law_kept : Option Addr} {sl__law_kept : Array (Option Value)} {oc__law_kept kV__law_kept dc__law_kept pm__law_kept cd__law_kept ct__law_kept : Value}
    (a__law_kept : PySem.W.nsIn K mainGlobals "_law_kept" = some (some (.ref f__law_kept))) (l__law_kept : K.lookup f__law_kept = some ⟨oc__law_kept, od__law_kept, .func (PySem.W.fnOf "_law_kept" "_law_kept" (defArgs s__law_kept) (defBody s__law_kept) (defScope s__law_kept) .none kV__law_kept dc__law_kept pm__law_kept an__law_kept cd__law_kept ct__law_kept), sl__law_kept⟩) (c__law_kept : PySem.W.codeIn K cd__law_kept "_law_kept" = true) (k__law_kept : PySem.W.keepIn K (.ref f__law_kept) = true)
    {od__law_region an__law_region : Option Addr} {sl__law_region : Array (Option Value)} {oc__law_region kV__law_region dc__law_region pm__law_region cd__law_region ct__law_region : Value}
    (a__law_region : PySem.W.nsIn K mainGlobals "_law_region" = some (some (.ref f__law_region))) (l__law_region : K.lookup f__law_region = some ⟨oc__law_region, od__law_region, .func (PySem.W.fnOf "_law_region" "_law_region" (defArgs s__law_region) (defBody s__law_region) (defScope s__law_region) .none kV__law_region dc__law_region pm__law_region an__law_region cd__law_region ct__law_region), sl__law_region⟩) (c__law_region : PySem.W.codeIn K cd__law_region "_law_region" = true) (k__law_region : PySem.W.keepIn K (.ref f__law_region) = true)
    {od__law_size an__law_size : Option Addr} {sl__law_size : Array (Option Value)} {oc__law_size kV__law_size dc__law_size pm__law_size cd__law_size ct__law_size : Value}
    (a__law_size : PySem.W.nsIn K mainGlobals "_law_size" = some (some (.ref f__law_size))) (l__law_size : K.lookup f__law_size = some ⟨oc__law_size, od__law_size, .func (PySem.W.fnOf "_law_size" "_law_size" (defArgs s__law_size) (defBody s__law_size) (defScope s__law_size) .none kV__law_size dc__law_size pm__law_size an__law_size cd__law_size ct__law_size), sl__law_size⟩) (c__law_size : PySem.W.codeIn K cd__law_size "_law_size" = true) (k__law_size : PySem.W.keepIn K (.ref f__law_size) = true)
    {od_steps_to an_steps_to : Option Addr} {sl_steps_to : Array (Option Value)} {oc_steps_to kV_steps_to dc_steps_to pm_steps_to cd_steps_to ct_steps_to : Value}
    (a_steps_to : PySem.W.nsIn K mainGlobals "steps_to" = some (some (.ref f_steps_to))) (l_steps_to : K.lookup f_steps_to = some ⟨oc_steps_to, od_steps_to, .func (PySem.W.fnOf "steps_to" "steps_to" (defArgs s_steps_to) (defBody s_steps_to) (defScope s_steps_to) .none kV_steps_to dc_steps_to pm_steps_to an_steps_to cd_steps_to ct_steps_to), sl_steps_to⟩) (c_steps_to : PySem.W.codeIn K cd_steps_to "steps_to" = true) (k_steps_to : PySem.W.keepIn K (.ref f_steps_to) = true)
    {od_ring_sides an_ring_sides : Option Addr} {sl_ring_sides : Array (Option Value)} {oc_ring_sides kV_ring_sides dc_ring_sides pm_ring_sides cd_ring_sides ct_ring_sides : Value}
    (a_ring_sides : PySem.W.nsIn K mainGlobals "ring_sides" = some (some (.ref f_ring_sides))) (l_ring_sides : K.lookup f_ring_sides = some ⟨oc_ring_sides, od_ring_sides, .func (PySem.W.fnOf "ring_sides" "ring_sides" (defArgs s_ring_sides) (defBody s_ring_sides) (defScope s_ring_sides) .none kV_ring_sides dc_ring_sides pm_ring_sides an_ring_sides cd_ring_sides ct_ring_sides), sl_ring_sides⟩) (c_ring_sides : PySem.W.codeIn K cd_ring_sides "ring_sides" = true) (k_ring_sides : PySem.W.keepIn K (.ref f_ring_sides) = true)
    {od__law_moved an__law_moved : Option Addr} {sl__law_moved : Array (Option Value)} {oc__law_moved kV__law_moved dc__law_moved pm__law_moved cd__law_moved ct__law_moved : Value}
    (a__law_moved : PySem.W.nsIn K mainGlobals "_law_moved" = some (some (.ref f__law_moved))) (l__law_moved : K.lookup f__law_moved = some ⟨oc__law_moved, od__law_moved, .func (PySem.W.fnOf "_law_moved" "_law_moved" (defArgs s__law_moved) (defBody s__law_moved) (defScope s__law_moved) .none kV__law_moved dc__law_moved pm__law_moved an__law_moved cd__law_moved ct__law_moved), sl__law_moved⟩) (c__law_moved : PySem.W.codeIn K cd__law_moved "_law_moved" = true) (k__law_moved : PySem.W.keepIn K (.ref f__law_moved) = true)
    {od__law_cell_moved an__law_cell_moved : Option Addr} {sl__law_cell_moved : Array (Option Value)} {oc__law_cell_moved kV__law_cell_moved dc__law_cell_moved pm__law_cell_moved cd__law_cell_moved ct__law_cell_moved : Value}
    (a__law_cell_moved : PySem.W.nsIn K mainGlobals "_law_cell_moved" = some (some (.ref f__law_cell_moved))) (l__law_cell_moved : K.lookup f__law_cell_moved = some ⟨oc__law_cell_moved, od__law_cell_moved, .func (PySem.W.fnOf "_law_cell_moved" "_law_cell_moved" (defArgs s__law_cell_moved) (defBody s__law_cell_moved) (defScope s__law_cell_moved) .none kV__law_cell_moved dc__law_cell_moved pm__law_cell_moved an__law_cell_moved cd__law_cell_moved ct__law_cell_moved), sl__law_cell_moved⟩) (c__law_cell_moved : PySem.W.codeIn K cd__law_cell_moved "_law_cell_moved" = true) (k__law_cell_moved : PySem.W.keepIn K (.ref f__law_cell_moved) = true)
    {od__law_as_sets an__law_as_sets : Option Addr} {sl__law_as_sets : Array (Option Value)} {oc__law_as_sets kV__law_as_sets dc__law_as_sets pm__law_as_sets cd__law_as_sets ct__law_as_sets : Value}
    (a__law_as_sets : PySem.W.nsIn K mainGlobals "_law_as_sets" = some (some (.ref f__law_as_sets))) (l__law_as_sets : K.lookup f__law_as_sets = some ⟨oc__law_as_sets, od__law_as_sets, .func (PySem.W.fnOf "_law_as_sets" "_law_as_sets" (defArgs s__law_as_sets) (defBody s__law_as_sets) (defScope s__law_as_sets) .none kV__law_as_sets dc__law_as_sets pm__law_as_sets an__law_as_sets cd__law_as_sets ct__law_as_sets), sl__law_as_sets⟩) (c__law_as_sets : PySem.W.codeIn K cd__law_as_sets "_law_as_sets" = true) (k__law_as_sets : PySem.W.keepIn K (.ref f__law_as_sets) = true)
    {od__law_goes_with an__law_goes_with : Option Addr} {sl__law_goes_with : Array (Option Value)} {oc__law_goes_with kV__law_goes_with dc__law_goes_with pm__law_goes_with cd__law_goes_with ct__law_goes_with : Value}
    (a__law_goes_with : PySem.W.nsIn K mainGlobals "_law_goes_with" = some (some (.ref f__law_goes_with))) (l__law_goes_with : K.lookup f__law_goes_with = some ⟨oc__law_goes_with, od__law_goes_with, .func (PySem.W.fnOf "_law_goes_with" "_law_goes_with" (defArgs s__law_goes_with) (defBody s__law_goes_with) (defScope s__law_goes_with) .none kV__law_goes_with dc__law_goes_with pm__law_goes_with an__law_goes_with cd__law_goes_with ct__law_goes_with), sl__law_goes_with⟩) (c__law_goes_with : PySem.W.codeIn K cd__law_goes_with "_law_goes_with" = true) (k__law_goes_with : PySem.W.keepIn K (.ref f__law_goes_with) = true)
    {od_between an_between : Option Addr} {sl_between : Array (Option Value)} {oc_between kV_between dc_between pm_between cd_between ct_between : Value}
    (a_between : PySem.W.nsIn K mainGlobals "between" = some (some (.ref f_between))) (l_between : K.lookup f_between = some ⟨oc_between, od_between, .func (PySem.W.fnOf "between" "between" (defArgs s_between) (defBody s_between) (defScope s_between) .none kV_between dc_between pm_between an_between cd_between ct_between), sl_between⟩) (c_between : PySem.W.codeIn K cd_between "between" = true) (k_between : PySem.W.keepIn K (.ref f_between) = true)
    {od__law_parted an__law_parted : Option Addr} {sl__law_parted : Array (Option Value)} {oc__law_parted kV__law_parted dc__law_parted pm__law_parted cd__law_parted ct__law_parted : Value}
    (a__law_parted : PySem.W.nsIn K mainGlobals "_law_parted" = some (some (.ref f__law_parted))) (l__law_parted : K.lookup f__law_parted = some ⟨oc__law_parted, od__law_parted, .func (PySem.W.fnOf "_law_parted" "_law_parted" (defArgs s__law_parted) (defBody s__law_parted) (defScope s__law_parted) .none kV__law_parted dc__law_parted pm__law_parted an__law_parted cd__law_parted ct__law_parted), sl__law_parted⟩) (c__law_parted : PySem.W.codeIn K cd__law_parted "_law_parted" = true) (k__law_parted : PySem.W.keepIn K (.ref f__law_parted) = true)
    {od_law an_law : Option Addr} {sl_law : Array (Option Value)} {oc_law kV_law dc_law pm_law cd_law ct_law : Value}
    (a_law : PySem.W.nsIn K mainGlobals "law" = some (some (.ref f_law))) (l_law : K.lookup f_law = some ⟨oc_law, od_law, .func (PySem.W.fnOf "law" "law" (defArgs s_law) (defBody s_law) (defScope s_law) .none kV_law dc_law pm_law an_law cd_law ct_law), sl_law⟩) (c_law : PySem.W.codeIn K cd_law "law" = true) (k_law : PySem.W.keepIn K (.ref f_law) = true)
    (z_abs : PySem.W.nsIn K mainGlobals "abs" = some none)
    (z_enumerate : PySem.W.nsIn K mainGlobals "enumerate" = some none)
    (z_len : PySem.W.nsIn K mainGlobals "len" = some none)
    (z_list : PySem.W.nsIn K mainGlobals "list" = some none)
    (z_min : PySem.W.nsIn K mainGlobals "min" = some none)
    (z_range : PySem.W.nsIn K mainGlobals "range" = some none)
    (z_sorted : PySem.W.nsIn K mainGlobals "sorted" = some none)
    (z_tuple : PySem.W.nsIn K mainGlobals "tuple" = some none)
    (z_zip : PySem.W.nsIn K mainGlobals "zip" = some none)
    {a_EAST : Addr} {do_EAST : Option Addr} {it_EAST : Array Value} {en_EAST : Nat} {so_EAST : Array (Option Value)} (x_EAST : PySem.W.nsIn K mainGlobals "EAST" = some (some (.ref a_EAST))) (y_EAST : K.lookup a_EAST = some ⟨.type "tuple", do_EAST, .seq it_EAST en_EAST, so_EAST⟩) (w_EAST : Vals [.int (1), .int (0)] it_EAST.toList) (v_EAST : it_EAST.size ≤ sizeLine)
    {a_NORTH : Addr} {do_NORTH : Option Addr} {it_NORTH : Array Value} {en_NORTH : Nat} {so_NORTH : Array (Option Value)} (x_NORTH : PySem.W.nsIn K mainGlobals "NORTH" = some (some (.ref a_NORTH))) (y_NORTH : K.lookup a_NORTH = some ⟨.type "tuple", do_NORTH, .seq it_NORTH en_NORTH, so_NORTH⟩) (w_NORTH : Vals [.int (0), .int (1)] it_NORTH.toList) (v_NORTH : it_NORTH.size ≤ sizeLine)
    {a_WEST : Addr} {do_WEST : Option Addr} {it_WEST : Array Value} {en_WEST : Nat} {so_WEST : Array (Option Value)} (x_WEST : PySem.W.nsIn K mainGlobals "WEST" = some (some (.ref a_WEST))) (y_WEST : K.lookup a_WEST = some ⟨.type "tuple", do_WEST, .seq it_WEST en_WEST, so_WEST⟩) (w_WEST : Vals [.int (-1), .int (0)] it_WEST.toList) (v_WEST : it_WEST.size ≤ sizeLine) :
    ∃ (x qual : Str) (st : Stmt) (fd : FuncData) (N : List Str), Fun K x qual st fa fd ∧ FnScope N ["script"] (defScope st) ∧ (∀ (s : Shared) (u : Value), BindsTo s fd ⟨[u], []⟩ [("script", u)]) ∧ LawGo l.prog w K mg fa qual st N 7 63 := by
  have e := hfa.symm.trans (PySem.W.mg_of X G a_law)
  cases e
  exact ⟨"law", "law", s_law, _, NN_law, fun_mk (st := s_law) l_law c_law k_law, sc_law, fun s v => .of_eq rfl, law_go {
    f_going := f_going,
    d_going := _,
    F_going := (fun_mk (st := s_going) l_going c_going k_going),
    g_going := PySem.W.mg_of X G a_going,
    b_going := Fun.binds (fun_mk (st := s_going) l_going c_going k_going) (fun _ _ _ _ _ _ us hl => match us, hl with | [_], _ => rfl),
    f_left_of := f_left_of,
    d_left_of := _,
    F_left_of := (fun_mk (st := s_left_of) l_left_of c_left_of k_left_of),
    g_left_of := PySem.W.mg_of X G a_left_of,
    b_left_of := Fun.binds (fun_mk (st := s_left_of) l_left_of c_left_of k_left_of) (fun _ _ _ _ _ _ us hl => match us, hl with | [_], _ => rfl),
    f_right_of := f_right_of,
    d_right_of := _,
    F_right_of := (fun_mk (st := s_right_of) l_right_of c_right_of k_right_of),
    g_right_of := PySem.W.mg_of X G a_right_of,
    b_right_of := Fun.binds (fun_mk (st := s_right_of) l_right_of c_right_of k_right_of) (fun _ _ _ _ _ _ us hl => match us, hl with | [_], _ => rfl),
    f_round_cell := f_round_cell,
    d_round_cell := _,
    F_round_cell := (fun_mk (st := s_round_cell) l_round_cell c_round_cell k_round_cell),
    g_round_cell := PySem.W.mg_of X G a_round_cell,
    b_round_cell := Fun.binds (fun_mk (st := s_round_cell) l_round_cell c_round_cell k_round_cell) (fun _ _ _ _ _ _ us hl => match us, hl with | [_], _ => rfl),
    f_sides := f_sides,
    d_sides := _,
    F_sides := (fun_mk (st := s_sides) l_sides c_sides k_sides),
    g_sides := PySem.W.mg_of X G a_sides,
    b_sides := Fun.binds (fun_mk (st := s_sides) l_sides c_sides k_sides) (fun _ _ _ _ _ _ us hl => match us, hl with | [_], _ => rfl),
    f_next_side := f_next_side,
    d_next_side := _,
    F_next_side := (fun_mk (st := s_next_side) l_next_side c_next_side k_next_side),
    g_next_side := PySem.W.mg_of X G a_next_side,
    b_next_side := Fun.binds (fun_mk (st := s_next_side) l_next_side c_next_side k_next_side) (fun _ _ _ _ _ _ us hl => match us, hl with | [_, _], _ => rfl),
    f_turned_at := f_turned_at,
    d_turned_at := _,
    F_turned_at := (fun_mk (st := s_turned_at) l_turned_at c_turned_at k_turned_at),
    g_turned_at := PySem.W.mg_of X G a_turned_at,
    b_turned_at := Fun.binds (fun_mk (st := s_turned_at) l_turned_at c_turned_at k_turned_at) (fun _ _ _ _ _ _ us hl => match us, hl with | [_], _ => rfl),
    f_rings := f_rings,
    d_rings := _,
    F_rings := (fun_mk (st := s_rings) l_rings c_rings k_rings),
    g_rings := PySem.W.mg_of X G a_rings,
    b_rings := Fun.binds (fun_mk (st := s_rings) l_rings c_rings k_rings) (fun _ _ _ _ _ _ us hl => match us, hl with | [_], _ => rfl),
    f_round_of := f_round_of,
    d_round_of := _,
    F_round_of := (fun_mk (st := s_round_of) l_round_of c_round_of k_round_of),
    g_round_of := PySem.W.mg_of X G a_round_of,
    b_round_of := Fun.binds (fun_mk (st := s_round_of) l_round_of c_round_of k_round_of) (fun _ _ _ _ _ _ us hl => match us, hl with | [_], _ => rfl),
    f_piece_of := f_piece_of,
    d_piece_of := _,
    F_piece_of := (fun_mk (st := s_piece_of) l_piece_of c_piece_of k_piece_of),
    g_piece_of := PySem.W.mg_of X G a_piece_of,
    b_piece_of := Fun.binds (fun_mk (st := s_piece_of) l_piece_of c_piece_of k_piece_of) (fun _ _ _ _ _ _ us hl => match us, hl with | [_, _], _ => rfl),
    f_pieces := f_pieces,
    d_pieces := _,
    F_pieces := (fun_mk (st := s_pieces) l_pieces c_pieces k_pieces),
    g_pieces := PySem.W.mg_of X G a_pieces,
    b_pieces := Fun.binds (fun_mk (st := s_pieces) l_pieces c_pieces k_pieces) (fun _ _ _ _ _ _ us hl => match us, hl with | [_], _ => rfl),
    f__law_begun := f__law_begun,
    d__law_begun := _,
    F__law_begun := (fun_mk (st := s__law_begun) l__law_begun c__law_begun k__law_begun),
    g__law_begun := PySem.W.mg_of X G a__law_begun,
    b__law_begun := Fun.binds (fun_mk (st := s__law_begun) l__law_begun c__law_begun k__law_begun) (fun _ _ _ _ _ _ us hl => match us, hl with | [_], _ => rfl),
    f__law_take := f__law_take,
    d__law_take := _,
    F__law_take := (fun_mk (st := s__law_take) l__law_take c__law_take k__law_take),
    g__law_take := PySem.W.mg_of X G a__law_take,
    b__law_take := Fun.binds (fun_mk (st := s__law_take) l__law_take c__law_take k__law_take) (fun _ _ _ _ _ _ us hl => match us, hl with | [_, _], _ => rfl),
    f__law_pick := f__law_pick,
    d__law_pick := _,
    F__law_pick := (fun_mk (st := s__law_pick) l__law_pick c__law_pick k__law_pick),
    g__law_pick := PySem.W.mg_of X G a__law_pick,
    b__law_pick := Fun.binds (fun_mk (st := s__law_pick) l__law_pick c__law_pick k__law_pick) (fun _ _ _ _ _ _ us hl => match us, hl with | [_, _], _ => rfl),
    f__law_box := f__law_box,
    d__law_box := _,
    F__law_box := (fun_mk (st := s__law_box) l__law_box c__law_box k__law_box),
    g__law_box := PySem.W.mg_of X G a__law_box,
    b__law_box := Fun.binds (fun_mk (st := s__law_box) l__law_box c__law_box k__law_box) (fun _ _ _ _ _ _ us hl => match us, hl with | [_, _, _], _ => rfl),
    f__law_kept := f__law_kept,
    d__law_kept := _,
    F__law_kept := (fun_mk (st := s__law_kept) l__law_kept c__law_kept k__law_kept),
    g__law_kept := PySem.W.mg_of X G a__law_kept,
    b__law_kept := Fun.binds (fun_mk (st := s__law_kept) l__law_kept c__law_kept k__law_kept) (fun _ _ _ _ _ _ us hl => match us, hl with | [_, _, _, _, _], _ => rfl),
    f__law_region := f__law_region,
    d__law_region := _,
    F__law_region := (fun_mk (st := s__law_region) l__law_region c__law_region k__law_region),
    g__law_region := PySem.W.mg_of X G a__law_region,
    b__law_region := Fun.binds (fun_mk (st := s__law_region) l__law_region c__law_region k__law_region) (fun _ _ _ _ _ _ us hl => match us, hl with | [_, _, _], _ => rfl),
    f__law_size := f__law_size,
    d__law_size := _,
    F__law_size := (fun_mk (st := s__law_size) l__law_size c__law_size k__law_size),
    g__law_size := PySem.W.mg_of X G a__law_size,
    b__law_size := Fun.binds (fun_mk (st := s__law_size) l__law_size c__law_size k__law_size) (fun _ _ _ _ _ _ us hl => match us, hl with | [_], _ => rfl),
    f_steps_to := f_steps_to,
    d_steps_to := _,
    F_steps_to := (fun_mk (st := s_steps_to) l_steps_to c_steps_to k_steps_to),
    g_steps_to := PySem.W.mg_of X G a_steps_to,
    b_steps_to := Fun.binds (fun_mk (st := s_steps_to) l_steps_to c_steps_to k_steps_to) (fun _ _ _ _ _ _ us hl => match us, hl with | [_, _], _ => rfl),
    f_ring_sides := f_ring_sides,
    d_ring_sides := _,
    F_ring_sides := (fun_mk (st := s_ring_sides) l_ring_sides c_ring_sides k_ring_sides),
    g_ring_sides := PySem.W.mg_of X G a_ring_sides,
    b_ring_sides := Fun.binds (fun_mk (st := s_ring_sides) l_ring_sides c_ring_sides k_ring_sides) (fun _ _ _ _ _ _ us hl => match us, hl with | [_], _ => rfl),
    f__law_moved := f__law_moved,
    d__law_moved := _,
    F__law_moved := (fun_mk (st := s__law_moved) l__law_moved c__law_moved k__law_moved),
    g__law_moved := PySem.W.mg_of X G a__law_moved,
    b__law_moved := Fun.binds (fun_mk (st := s__law_moved) l__law_moved c__law_moved k__law_moved) (fun _ _ _ _ _ _ us hl => match us, hl with | [_, _, _], _ => rfl),
    f__law_cell_moved := f__law_cell_moved,
    d__law_cell_moved := _,
    F__law_cell_moved := (fun_mk (st := s__law_cell_moved) l__law_cell_moved c__law_cell_moved k__law_cell_moved),
    g__law_cell_moved := PySem.W.mg_of X G a__law_cell_moved,
    b__law_cell_moved := Fun.binds (fun_mk (st := s__law_cell_moved) l__law_cell_moved c__law_cell_moved k__law_cell_moved) (fun _ _ _ _ _ _ us hl => match us, hl with | [_, _, _], _ => rfl),
    f__law_as_sets := f__law_as_sets,
    d__law_as_sets := _,
    F__law_as_sets := (fun_mk (st := s__law_as_sets) l__law_as_sets c__law_as_sets k__law_as_sets),
    g__law_as_sets := PySem.W.mg_of X G a__law_as_sets,
    b__law_as_sets := Fun.binds (fun_mk (st := s__law_as_sets) l__law_as_sets c__law_as_sets k__law_as_sets) (fun _ _ _ _ _ _ us hl => match us, hl with | [_], _ => rfl),
    f__law_goes_with := f__law_goes_with,
    d__law_goes_with := _,
    F__law_goes_with := (fun_mk (st := s__law_goes_with) l__law_goes_with c__law_goes_with k__law_goes_with),
    g__law_goes_with := PySem.W.mg_of X G a__law_goes_with,
    b__law_goes_with := Fun.binds (fun_mk (st := s__law_goes_with) l__law_goes_with c__law_goes_with k__law_goes_with) (fun _ _ _ _ _ _ us hl => match us, hl with | [_, _, _], _ => rfl),
    f_between := f_between,
    d_between := _,
    F_between := (fun_mk (st := s_between) l_between c_between k_between),
    g_between := PySem.W.mg_of X G a_between,
    b_between := Fun.binds (fun_mk (st := s_between) l_between c_between k_between) (fun _ _ _ _ _ _ us hl => match us, hl with | [_, _], _ => rfl),
    f__law_parted := f__law_parted,
    d__law_parted := _,
    F__law_parted := (fun_mk (st := s__law_parted) l__law_parted c__law_parted k__law_parted),
    g__law_parted := PySem.W.mg_of X G a__law_parted,
    b__law_parted := Fun.binds (fun_mk (st := s__law_parted) l__law_parted c__law_parted k__law_parted) (fun _ _ _ _ _ _ us hl => match us, hl with | [_, _], _ => rfl),
    f_law := fa,
    d_law := _,
    F_law := (fun_mk (st := s_law) l_law c_law k_law),
    g_law := PySem.W.mg_of X G a_law,
    b_law := Fun.binds (fun_mk (st := s_law) l_law c_law k_law) (fun _ _ _ _ _ _ us hl => match us, hl with | [_], _ => rfl),
    n_abs := PySem.W.mg_none_of X G z_abs,
    n_enumerate := PySem.W.mg_none_of X G z_enumerate,
    n_len := PySem.W.mg_none_of X G z_len,
    n_list := PySem.W.mg_none_of X G z_list,
    n_min := PySem.W.mg_none_of X G z_min,
    n_range := PySem.W.mg_none_of X G z_range,
    n_sorted := PySem.W.mg_none_of X G z_sorted,
    n_tuple := PySem.W.mg_none_of X G z_tuple,
    n_zip := PySem.W.mg_none_of X G z_zip,
    a_EAST := a_EAST,
    m_EAST := PySem.W.mg_of X G x_EAST,
    v_EAST := .tup (.inr ⟨_, it_EAST, en_EAST, y_EAST, rfl, rfl, v_EAST, w_EAST⟩) (.cons (.int _) (.cons (.int _) .nil)),
    a_NORTH := a_NORTH,
    m_NORTH := PySem.W.mg_of X G x_NORTH,
    v_NORTH := .tup (.inr ⟨_, it_NORTH, en_NORTH, y_NORTH, rfl, rfl, v_NORTH, w_NORTH⟩) (.cons (.int _) (.cons (.int _) .nil)),
    a_WEST := a_WEST,
    m_WEST := PySem.W.mg_of X G x_WEST,
    v_WEST := .tup (.inr ⟨_, it_WEST, en_WEST, y_WEST, rfl, rfl, v_WEST, w_WEST⟩) (.cons (.int _) (.cons (.int _) .nil)) }⟩
end Q25
open PySem PySem.W PyProof.Rows DL in
set_option maxRecDepth 100000 in
set_option maxHeartbeats 0 in
theorem PySem.Challenge.cw_lothouse_k25_whole_borders_moved_and_par_holds : PySem.Challenge.rw_lothouse_k25_whole_borders_moved_and_par.Holds := by
  w_on; o_law; k_head; (case hw => w_witness2)
  k_fill
  refine DL.walk_top (n := 7) (m := 63) (l := PySem.Challenge.rw_lothouse_k25_whole_borders_moved_and_par) rfl (by decide) rfl ⟨rfl, by decide, by decide⟩ (fun w h Y => PySem.W.kIn_of Y) ?F
  case F =>
    intro w mg fa h KX G hmg
    refine' Q25.all_mk KX G hmg ?a_going ?l_going ?c_going ?k_going ?a_left_of ?l_left_of ?c_left_of ?k_left_of ?a_right_of ?l_right_of ?c_right_of ?k_right_of ?a_round_cell ?l_round_cell ?c_round_cell ?k_round_cell ?a_sides ?l_sides ?c_sides ?k_sides ?a_next_side ?l_next_side ?c_next_side ?k_next_side ?a_turned_at ?l_turned_at ?c_turned_at ?k_turned_at ?a_rings ?l_rings ?c_rings ?k_rings ?a_round_of ?l_round_of ?c_round_of ?k_round_of ?a_piece_of ?l_piece_of ?c_piece_of ?k_piece_of ?a_pieces ?l_pieces ?c_pieces ?k_pieces ?a__law_begun ?l__law_begun ?c__law_begun ?k__law_begun ?a__law_take ?l__law_take ?c__law_take ?k__law_take ?a__law_pick ?l__law_pick ?c__law_pick ?k__law_pick ?a__law_box ?l__law_box ?c__law_box ?k__law_box ?a__law_kept ?l__law_kept ?c__law_kept ?k__law_kept ?a__law_region ?l__law_region ?c__law_region ?k__law_region ?a__law_size ?l__law_size ?c__law_size ?k__law_size ?a_steps_to ?l_steps_to ?c_steps_to ?k_steps_to ?a_ring_sides ?l_ring_sides ?c_ring_sides ?k_ring_sides ?a__law_moved ?l__law_moved ?c__law_moved ?k__law_moved ?a__law_cell_moved ?l__law_cell_moved ?c__law_cell_moved ?k__law_cell_moved ?a__law_as_sets ?l__law_as_sets ?c__law_as_sets ?k__law_as_sets ?a__law_goes_with ?l__law_goes_with ?c__law_goes_with ?k__law_goes_with ?a_between ?l_between ?c_between ?k_between ?a__law_parted ?l__law_parted ?c__law_parted ?k__law_parted ?a_law ?l_law ?c_law ?k_law ?z_abs ?z_enumerate ?z_len ?z_list ?z_min ?z_range ?z_sorted ?z_tuple ?z_zip ?x_EAST ?y_EAST ?w_EAST ?v_EAST ?x_NORTH ?y_NORTH ?w_NORTH ?v_NORTH ?x_WEST ?y_WEST ?w_WEST ?v_WEST
    (case a_going => k_is)
    (case l_going => k_is)
    (case c_going => k_is)
    (case k_going => k_is)
    (case a_left_of => k_is)
    (case l_left_of => k_is)
    (case c_left_of => k_is)
    (case k_left_of => k_is)
    (case a_right_of => k_is)
    (case l_right_of => k_is)
    (case c_right_of => k_is)
    (case k_right_of => k_is)
    (case a_round_cell => k_is)
    (case l_round_cell => k_is)
    (case c_round_cell => k_is)
    (case k_round_cell => k_is)
    (case a_sides => k_is)
    (case l_sides => k_is)
    (case c_sides => k_is)
    (case k_sides => k_is)
    (case a_next_side => k_is)
    (case l_next_side => k_is)
    (case c_next_side => k_is)
    (case k_next_side => k_is)
    (case a_turned_at => k_is)
    (case l_turned_at => k_is)
    (case c_turned_at => k_is)
    (case k_turned_at => k_is)
    (case a_rings => k_is)
    (case l_rings => k_is)
    (case c_rings => k_is)
    (case k_rings => k_is)
    (case a_round_of => k_is)
    (case l_round_of => k_is)
    (case c_round_of => k_is)
    (case k_round_of => k_is)
    (case a_piece_of => k_is)
    (case l_piece_of => k_is)
    (case c_piece_of => k_is)
    (case k_piece_of => k_is)
    (case a_pieces => k_is)
    (case l_pieces => k_is)
    (case c_pieces => k_is)
    (case k_pieces => k_is)
    (case a__law_begun => k_is)
    (case l__law_begun => k_is)
    (case c__law_begun => k_is)
    (case k__law_begun => k_is)
    (case a__law_take => k_is)
    (case l__law_take => k_is)
    (case c__law_take => k_is)
    (case k__law_take => k_is)
    (case a__law_pick => k_is)
    (case l__law_pick => k_is)
    (case c__law_pick => k_is)
    (case k__law_pick => k_is)
    (case a__law_box => k_is)
    (case l__law_box => k_is)
    (case c__law_box => k_is)
    (case k__law_box => k_is)
    (case a__law_kept => k_is)
    (case l__law_kept => k_is)
    (case c__law_kept => k_is)
    (case k__law_kept => k_is)
    (case a__law_region => k_is)
    (case l__law_region => k_is)
    (case c__law_region => k_is)
    (case k__law_region => k_is)
    (case a__law_size => k_is)
    (case l__law_size => k_is)
    (case c__law_size => k_is)
    (case k__law_size => k_is)
    (case a_steps_to => k_is)
    (case l_steps_to => k_is)
    (case c_steps_to => k_is)
    (case k_steps_to => k_is)
    (case a_ring_sides => k_is)
    (case l_ring_sides => k_is)
    (case c_ring_sides => k_is)
    (case k_ring_sides => k_is)
    (case a__law_moved => k_is)
    (case l__law_moved => k_is)
    (case c__law_moved => k_is)
    (case k__law_moved => k_is)
    (case a__law_cell_moved => k_is)
    (case l__law_cell_moved => k_is)
    (case c__law_cell_moved => k_is)
    (case k__law_cell_moved => k_is)
    (case a__law_as_sets => k_is)
    (case l__law_as_sets => k_is)
    (case c__law_as_sets => k_is)
    (case k__law_as_sets => k_is)
    (case a__law_goes_with => k_is)
    (case l__law_goes_with => k_is)
    (case c__law_goes_with => k_is)
    (case k__law_goes_with => k_is)
    (case a_between => k_is)
    (case l_between => k_is)
    (case c_between => k_is)
    (case k_between => k_is)
    (case a__law_parted => k_is)
    (case l__law_parted => k_is)
    (case c__law_parted => k_is)
    (case k__law_parted => k_is)
    (case a_law => k_is)
    (case l_law => k_is)
    (case c_law => k_is)
    (case k_law => k_is)
    (case z_abs => k_is)
    (case z_enumerate => k_is)
    (case z_len => k_is)
    (case z_list => k_is)
    (case z_min => k_is)
    (case z_range => k_is)
    (case z_sorted => k_is)
    (case z_tuple => k_is)
    (case z_zip => k_is)
    (case x_EAST => k_is)
    (case y_EAST => k_is)
    (case w_EAST => exact .cons ⟨_, rfl⟩ (.cons ⟨_, rfl⟩ (.nil)))
    (case v_EAST => exact (sz64 rfl))
    (case x_NORTH => k_is)
    (case y_NORTH => k_is)
    (case w_NORTH => exact .cons ⟨_, rfl⟩ (.cons ⟨_, rfl⟩ (.nil)))
    (case v_NORTH => exact (sz64 rfl))
    (case x_WEST => k_is)
    (case y_WEST => k_is)
    (case w_WEST => exact .cons ⟨_, rfl⟩ (.cons ⟨_, rfl⟩ (.nil)))
    (case v_WEST => exact (sz64 rfl))
#print axioms PySem.Challenge.cw_lothouse_k25_whole_borders_moved_and_par_holds
