import PyProof.Rows.All
import Wide.All
import OpenK.AllK
import Wide.FinOn
import HandS.ForMost
import HandS.Flow
import HandS.NoneIn
import HandS.TryOnly
import HandS.Conv
import KE.SortData
import KE.DataCmp
import KE.LtData
import HandS.IsInst
import HandS.Zip
import PyProof.StrOps2
import HandS.TupAny
import HandS.Rev
import HandS.Style
import PyProof.FitsInt
import HandS.ExcSuper
import HandS.ExcInit
import HandS.ExcValue
import HandS.WordsExc
import KE.KSuper
import HandS.ExcOwn
import PyProof.EnumMake
import PyProof.EnumIter
import HandS.Iter
import HandS.Dict
import HandS.DictTup
import KE.KDictList
import PyProof.ReprRoads
import PyProof.CallFns
import HandS.Ends
import PyProof.ReprLen
import PyProof.Rows.ReprOcc
import PySem.Challenge.RW_afterthought_k44_texts_and_forms
set_option Elab.async false
section
set_option Elab.async false
set_option linter.all false
set_option maxRecDepth 100000
set_option maxHeartbeats 1000000
/-! LAYER 1: data, owned cells, the state, the judgements with one canonical reading. -/
namespace Q
open PySem L2

/-! ### data that does not change: PyData of Nones, bools, ints, texts, lists, tuples -/
mutual
def Rp (H : Hp) : PyData → V → Prop
  | .none, v => v = .non
  | .bool b, v => v = .bl b
  | .int i, v => v = .int i
  | .str x, v => v = .str x ∧ x.length ≤ sizeLine ∧ PyData.strOk x = true
  | .list ds, v => ∃ a vs, v = .ref a ∧ H a = some (.lst vs) ∧ vs.length ≤ sizeLine ∧ Rps H ds vs
  | .tuple ds, v => ∃ a vs, v = .ref a ∧ H a = some (.tup vs) ∧ vs.length ≤ sizeLine ∧ Rps H ds vs
  | .dict _, _ => False
def Rps (H : Hp) : List PyData → List V → Prop
  | [], vs => vs = []
  | d :: ds, vs => ∃ v r, vs = v :: r ∧ Rp H d v ∧ Rps H ds r
end
mutual
theorem Rp.mono {H H' : Hp} (e : Same H H') : ∀ {d : PyData} {v : V}, Rp H d v → Rp H' d v
  | .none, v, h => h
  | .bool b, v, h => h
  | .int i, v, h => h
  | .str x, v, h => h
  | .list ds, v, h => by
    obtain ⟨a, vs, e1, e2, e3, e4⟩ := h
    exact ⟨a, vs, e1, e _ _ e2, e3, Rps.mono e e4⟩
  | .tuple ds, v, h => by
    obtain ⟨a, vs, e1, e2, e3, e4⟩ := h
    exact ⟨a, vs, e1, e _ _ e2, e3, Rps.mono e e4⟩
  | .dict _, _, h => h.elim
theorem Rps.mono {H H' : Hp} (e : Same H H') : ∀ {ds : List PyData} {vs : List V}, Rps H ds vs → Rps H' ds vs
  | [], vs, h => h
  | d :: ds, vs, h => by
    obtain ⟨v, r, e1, e2, e3⟩ := h
    exact ⟨v, r, e1, Rp.mono e e2, Rps.mono e e3⟩
end
section
variable {H : Hp}
theorem Rps.length : ∀ {ds : List PyData} {vs : List V}, Rps H ds vs → vs.length = ds.length
  | [], vs, h => by cases h; rfl
  | d :: ds, vs, h => by
    obtain ⟨v, r, rfl, _, h⟩ := h
    rw [List.length_cons, List.length_cons, Rps.length h]
theorem Rps.get : ∀ {ds : List PyData} {vs : List V} {i : Nat} {d : PyData}, Rps H ds vs → ds[i]? = some d → ∃ v, vs[i]? = some v ∧ Rp H d v
  | [], _, _, _, _, e => by simp at e
  | d :: ds, vs, 0, x, h, e => by
    obtain ⟨v, r, rfl, h1, h2⟩ := h
    cases (Option.some.inj e)
    exact ⟨v, rfl, h1⟩
  | d :: ds, vs, i + 1, x, h, e => by
    obtain ⟨v, r, rfl, h1, h2⟩ := h
    exact Rps.get (i := i) h2 e
theorem Rps.append : ∀ {ds es : List PyData} {vs us : List V}, Rps H ds vs → Rps H es us → Rps H (ds ++ es) (vs ++ us)
  | [], _, vs, us, h, h' => by cases h; exact h'
  | d :: ds, es, vs, us, h, h' => by
    obtain ⟨v, r, rfl, h1, h2⟩ := h
    exact ⟨v, r ++ us, rfl, h1, Rps.append h2 h'⟩
theorem Rps.one {d : PyData} {v : V} (h : Rp H d v) : Rps H [d] [v] := ⟨v, [], rfl, h, rfl⟩
theorem Rps.set : ∀ {ds : List PyData} {vs : List V} {i : Nat} {d : PyData} {v : V}, Rps H ds vs → Rp H d v → Rps H (ds.set i d) (vs.set i v)
  | [], vs, _, _, _, h, _ => by cases h; rfl
  | x :: ds, vs, 0, d, v, h, h' => by
    obtain ⟨u, r, rfl, h1, h2⟩ := h
    exact ⟨v, r, rfl, h', h2⟩
  | x :: ds, vs, i + 1, d, v, h, h' => by
    obtain ⟨u, r, rfl, h1, h2⟩ := h
    exact ⟨u, r.set i v, rfl, h1, Rps.set h2 h'⟩
theorem Rps.drop : ∀ {ds : List PyData} {vs : List V} (n : Nat), Rps H ds vs → Rps H (ds.drop n) (vs.drop n)
  | _, _, 0, h => h
  | [], vs, n + 1, h => by cases h; rfl
  | d :: ds, vs, n + 1, h => by
    obtain ⟨v, r, rfl, h1, h2⟩ := h
    exact Rps.drop n h2
theorem Rps.take : ∀ {ds : List PyData} {vs : List V} (n : Nat), Rps H ds vs → Rps H (ds.take n) (vs.take n)
  | _, _, 0, _ => rfl
  | [], vs, n + 1, h => by cases h; rfl
  | d :: ds, vs, n + 1, h => by
    obtain ⟨v, r, rfl, h1, h2⟩ := h
    exact ⟨v, r.take n, rfl, h1, Rps.take n h2⟩
theorem Rps.reverse : ∀ {ds : List PyData} {vs : List V}, Rps H ds vs → Rps H ds.reverse vs.reverse
  | [], vs, h => by cases h; rfl
  | d :: ds, vs, h => by
    obtain ⟨v, r, rfl, h1, h2⟩ := h
    rw [List.reverse_cons, List.reverse_cons]
    exact Rps.append (Rps.reverse h2) (Rps.one h1)
theorem Rps.eraseIdx : ∀ {ds : List PyData} {vs : List V} (n : Nat), Rps H ds vs → Rps H (ds.eraseIdx n) (vs.eraseIdx n)
  | [], vs, n, h => by cases h; rfl
  | d :: ds, vs, 0, h => by
    obtain ⟨v, r, rfl, h1, h2⟩ := h
    exact h2
  | d :: ds, vs, n + 1, h => by
    obtain ⟨v, r, rfl, h1, h2⟩ := h
    exact ⟨v, r.eraseIdx n, rfl, h1, Rps.eraseIdx n h2⟩
mutual
theorem Rp.dp {K : PySem.W.Frag} : ∀ {d : PyData} {v : V}, Rp H d v → Dp K H v d
  | .none, v, h => by cases h; exact .non
  | .bool b, v, h => by cases h; exact .bl b
  | .int i, v, h => by cases h; exact .int i
  | .str x, v, h => by obtain ⟨rfl, _⟩ := h; exact .str x
  | .list ds, v, h => by
    obtain ⟨a, vs, rfl, e2, _, e3⟩ := h
    exact .lst (SqL.of e2) (Rps.dp e3)
  | .tuple ds, v, h => by
    obtain ⟨a, vs, rfl, e2, _, e3⟩ := h
    exact .tup (SqT.of e2) (Rps.dp e3)
  | .dict _, _, h => h.elim
theorem Rps.dp {K : PySem.W.Frag} : ∀ {ds : List PyData} {vs : List V}, Rps H ds vs → DpAll K H vs ds
  | [], vs, h => by cases h; exact .nil
  | d :: ds, vs, h => by
    obtain ⟨v, r, rfl, h1, h2⟩ := h
    exact .cons (Rp.dp h1) (Rps.dp h2)
end
end

mutual
theorem Rp.lay {H : Hp} : ∀ {d : PyData} {v : V}, Rp H d v → d.canLay0 = true
  | .none, v, h => rfl
  | .bool b, v, h => rfl
  | .int i, v, h => rfl
  | .str x, v, h => h.2.2
  | .list ds, v, h => by obtain ⟨a, vs, rfl, e2, _, e3⟩ := h; simp only [PyData.canLay0]; exact Rps.lay e3
  | .tuple ds, v, h => by obtain ⟨a, vs, rfl, e2, _, e3⟩ := h; simp only [PyData.canLay0]; exact Rps.lay e3
  | .dict _, _, h => h.elim
theorem Rps.lay {H : Hp} : ∀ {ds : List PyData} {vs : List V}, Rps H ds vs → PyData.canLayAll0 ds = true
  | [], vs, h => rfl
  | d :: ds, vs, h => by
    obtain ⟨v, r, rfl, h1, h2⟩ := h
    simp only [PyData.canLayAll0, Rp.lay h1, Rps.lay h2, Bool.and_self]
end

/-! ### dicts told by their entries; frozen objects -/
abbrev RKV (H : Hp) {κ : Type} : List (κ × PyData) → List (κ × V) → Prop := Paired fun p q => p.1 = q.1 ∧ Rp H p.2 q.2
theorem RKV.mono {H H' : Hp} {κ : Type} (e : Same H H') {a : List (κ × PyData)} {b : List (κ × V)} (h : RKV H a b) : RKV H' a b :=
  Paired.mapP h fun _ _ q => ⟨q.1, Rp.mono e q.2⟩
/-- a key's text is bounded -/
def okK : Key → Prop
  | .inl _ => True
  | .inr x => x.length ≤ sizeLine ∧ PyData.strOk x = true
def okKs {β : Type} (kvs : List (Key × β)) : Prop := ∀ p ∈ kvs, okK p.1
def okTs {β : Type} (kvs : List (List Key × β)) : Prop := ∀ p ∈ kvs, p.1.length ≤ sizeLine ∧ ∀ k ∈ p.1, okK k
/-- a value of the program: -/
inductive D where
  | v (p : PyData)
  | adr (a : Addr)
  | dK (kvs : List (Key × PyData))
  | dT (kvs : List (List Key × PyData))
  | lsd (ds : List (List (Key × PyData)))
  | obj (C : Addr) (fs : List (Str × D))
  | dA (kvs : List (Key × Addr))
  | lA (bs : List Addr)
  | ph (φ : Hp → V → Prop) (m : ∀ (H H' : Hp) (v : V), Same H H' → φ H v → φ H' v)
def RdK (H : Hp) (kvs : List (Key × PyData)) (v : V) : Prop := okKs kvs ∧ ∃ a kv, v = .ref a ∧ Rd H a (.dK kv) ∧ RKV H kvs kv
mutual
def RD (H : Hp) : D → V → Prop
  | .v p, v => Rp H p v
  | .adr a, v => v = .ref a
  | .dK kvs, v => RdK H kvs v
  | .dT kvs, v => okTs kvs ∧ ∃ a kv, v = .ref a ∧ Rd H a (.dT kv) ∧ RKV H kvs kv
  | .lsd ds, v => ∃ a vs, v = .ref a ∧ H a = some (.lst vs) ∧ vs.length ≤ sizeLine ∧ Paired (fun d v => RdK H d v) ds vs
  | .obj C fs, v => ∃ a dx vf, v = .ref a ∧ H a = some (.ins C dx vf) ∧ vf.length ≤ 900 ∧ RFs H fs vf
  | .dA kvs, v => ∃ a, v = .ref a ∧ Rd H a (.dK (kvs.map fun p => (p.1, V.ref p.2)))
  | .lA bs, v => ∃ a, v = .ref a ∧ H a = some (.lst (bs.map V.ref)) ∧ bs.length ≤ sizeLine
  | .ph φ _, v => φ H v
def RFs (H : Hp) : List (Str × D) → List (Str × V) → Prop
  | [], vs => vs = []
  | (f, d) :: ds, vs => ∃ v r, vs = (f, v) :: r ∧ RD H d v ∧ RFs H ds r
end
theorem rd_mono {H H' : Hp} (e : Same H H') {a : Addr} {u : HO} (h : Rd H a u) : Rd H' a u := by
  rcases h with h | ⟨o, h⟩
  · exact .inl (e _ _ h)
  · exact .inr ⟨o, e _ _ h⟩
theorem RdK.mono {H H' : Hp} (e : Same H H') {kvs : List (Key × PyData)} {v : V} (h : RdK H kvs v) : RdK H' kvs v := by
  obtain ⟨ok, a, kv, e1, e2, e3⟩ := h
  exact ⟨ok, a, kv, e1, rd_mono e e2, e3.mono e⟩
mutual
theorem RD.mono {H H' : Hp} (e : Same H H') : ∀ {d : D} {v : V}, RD H d v → RD H' d v
  | .v p, v, h => Rp.mono e h
  | .adr a, v, h => h
  | .dK kvs, v, h => RdK.mono e h
  | .dT kvs, v, h => by
    obtain ⟨ok, a, kv, e1, e2, e3⟩ := h
    exact ⟨ok, a, kv, e1, rd_mono e e2, e3.mono e⟩
  | .lsd ds, v, h => by
    obtain ⟨a, vs, e1, e2, e3, e4⟩ := h
    exact ⟨a, vs, e1, e _ _ e2, e3, Paired.mapP e4 fun _ _ q => RdK.mono e q⟩
  | .obj C fs, v, h => by
    obtain ⟨a, dx, vf, e1, e2, e3, e4⟩ := h
    exact ⟨a, dx, vf, e1, e _ _ e2, e3, RFs.mono e e4⟩
  | .dA kvs, v, h => by
    obtain ⟨a, e1, e2⟩ := h
    exact ⟨a, e1, rd_mono e e2⟩
  | .lA bs, v, h => by
    obtain ⟨a, e1, e2, e3⟩ := h
    exact ⟨a, e1, e _ _ e2, e3⟩
  | .ph φ m, v, h => m _ _ _ e h
theorem RFs.mono {H H' : Hp} (e : Same H H') : ∀ {fs : List (Str × D)} {vs : List (Str × V)}, RFs H fs vs → RFs H' fs vs
  | [], _, h => h
  | (f, d) :: ds, _, h => by
    obtain ⟨v, r, e1, e2, e3⟩ := h
    exact ⟨v, r, e1, RD.mono e e2, RFs.mono e e3⟩
end
def RDs (H : Hp) : List D → List V → Prop
  | [], vs => vs = []
  | d :: ds, vs => ∃ v r, vs = v :: r ∧ RD H d v ∧ RDs H ds r
theorem RDs.mono {H H' : Hp} (e : Same H H') : ∀ {ds : List D} {vs : List V}, RDs H ds vs → RDs H' ds vs
  | [], vs, h => h
  | d :: ds, vs, h => by
    obtain ⟨v, r, e1, e2, e3⟩ := h
    exact ⟨v, r, e1, RD.mono e e2, RDs.mono e e3⟩
theorem RDs.length {H : Hp} : ∀ {ds : List D} {vs : List V}, RDs H ds vs → vs.length = ds.length
  | [], vs, h => by cases h; rfl
  | d :: ds, vs, h => by
    obtain ⟨v, r, rfl, _, h⟩ := h
    rw [List.length_cons, List.length_cons, RDs.length h]
theorem RDs.get {H : Hp} : ∀ {ds : List D} {vs : List V} {i : Nat} {d : D}, RDs H ds vs → ds[i]? = some d → ∃ v, vs[i]? = some v ∧ RD H d v
  | [], _, _, _, _, e => by simp at e
  | d :: ds, vs, 0, x, h, e => by
    obtain ⟨v, r, rfl, h1, h2⟩ := h
    cases (Option.some.inj e)
    exact ⟨v, rfl, h1⟩
  | d :: ds, vs, i + 1, x, h, e => by
    obtain ⟨v, r, rfl, h1, h2⟩ := h
    exact RDs.get (i := i) h2 e
theorem RDs.rps {H : Hp} : ∀ {ps : List PyData} {vs : List V}, RDs H (ps.map D.v) vs → Rps H ps vs
  | [], vs, h => h
  | p :: ps, vs, h => by
    obtain ⟨v, r, rfl, h1, h2⟩ := h
    exact ⟨v, r, rfl, h1, RDs.rps h2⟩

/-! ### owned cells -/
inductive Cell where
  | lst (ds : List PyData)
  | dK (kvs : List (Key × PyData))
  | dT (kvs : List (List Key × PyData))
  | dTL (kvs : List (List Key × List PyData))
  | dKL (kvs : List (Key × List PyData))
  | lsL (rows : List (List PyData))
  | ins (C : Addr) (fs : List (Str × D))
/-- lists of their own, by their addresses -/
def OwnLs (HF H : Hp) : List (List PyData) → List Addr → Prop
  | [], bs => bs = []
  | r :: rs, bs => ∃ b t vs, bs = b :: t ∧ H b = some (.lst vs) ∧ vs.length ≤ sizeLine ∧ Rps HF r vs ∧ OwnLs HF H rs t
/-- the cell c stands at a, over the footprint fp -/
def CellR (HF H : Hp) (a : Addr) (fp : List Addr) : Cell → Prop
  | .lst ds => fp = [a] ∧ ∃ vs, H a = some (.lst vs) ∧ vs.length ≤ sizeLine ∧ Rps HF ds vs
  | .dK kvs => fp = [a] ∧ ∃ kv, H a = some (.dK kv) ∧ RKV HF kvs kv ∧ okKs kvs
  | .dT kvs => fp = [a] ∧ ∃ kv, H a = some (.dT kv) ∧ RKV HF kvs kv ∧ okTs kvs
  | .dTL kvs => ∃ bs, fp = a :: bs ∧ H a = some (.dT ((kvs.map (·.1)).zip (bs.map V.ref))) ∧ OwnLs HF H (kvs.map (·.2)) bs ∧ okTs kvs
  | .dKL kvs => ∃ bs, fp = a :: bs ∧ H a = some (.dK ((kvs.map (·.1)).zip (bs.map V.ref))) ∧ OwnLs HF H (kvs.map (·.2)) bs ∧ okKs kvs
  | .lsL rows => ∃ bs, fp = a :: bs ∧ H a = some (.lst (bs.map V.ref)) ∧ bs.length ≤ sizeLine ∧ OwnLs HF H rows bs
  | .ins C fs => fp = [a] ∧ ∃ dx vf, H a = some (.ins C dx vf) ∧ vf.length ≤ 900 ∧ RFs HF fs vf
theorem OwnLs.mono {HF HF' H H' : Hp} (e : Same HF HF') : ∀ {rs : List (List PyData)} {bs : List Addr}, (∀ b ∈ bs, H' b = H b) → OwnLs HF H rs bs → OwnLs HF' H' rs bs
  | [], bs, _, h => h
  | r :: rs, bs, k, h => by
    obtain ⟨b, t, vs, rfl, h1, h2, h3, h4⟩ := h
    exact ⟨b, t, vs, rfl, (k b List.mem_cons_self).trans h1, h2, h3.mono e, OwnLs.mono e (fun c hc => k c (List.mem_cons_of_mem _ hc)) h4⟩
theorem CellR.mono {HF HF' H H' : Hp} {a : Addr} {fp : List Addr} {c : Cell} (e : Same HF HF') (k : ∀ b ∈ fp, H' b = H b) (h : CellR HF H a fp c) : CellR HF' H' a fp c := by
  cases c with
  | lst ds => obtain ⟨rfl, vs, h1, h2, h3⟩ := h; exact ⟨rfl, vs, (k a List.mem_cons_self).trans h1, h2, h3.mono e⟩
  | dK kvs => obtain ⟨rfl, kv, h1, h3, h4⟩ := h; exact ⟨rfl, kv, (k a List.mem_cons_self).trans h1, h3.mono e, h4⟩
  | dT kvs => obtain ⟨rfl, kv, h1, h3, h4⟩ := h; exact ⟨rfl, kv, (k a List.mem_cons_self).trans h1, h3.mono e, h4⟩
  | dTL kvs => obtain ⟨bs, rfl, h1, h3, h4⟩ := h; exact ⟨bs, rfl, (k a List.mem_cons_self).trans h1, h3.mono e (fun b hb => k b (List.mem_cons_of_mem _ hb)), h4⟩
  | dKL kvs => obtain ⟨bs, rfl, h1, h3, h4⟩ := h; exact ⟨bs, rfl, (k a List.mem_cons_self).trans h1, h3.mono e (fun b hb => k b (List.mem_cons_of_mem _ hb)), h4⟩
  | lsL rows => obtain ⟨bs, rfl, h1, h2, h3⟩ := h; exact ⟨bs, rfl, (k a List.mem_cons_self).trans h1, h2, h3.mono e fun b hb => k b (List.mem_cons_of_mem _ hb)⟩
  | ins C fs => obtain ⟨rfl, dx, vf, h1, h2, h3⟩ := h; exact ⟨rfl, dx, vf, (k a List.mem_cons_self).trans h1, h2, h3.mono e⟩
theorem CellR.mem {HF H : Hp} {a : Addr} {fp : List Addr} {c : Cell} (h : CellR HF H a fp c) : a ∈ fp := by
  cases c with
  | lst ds => obtain ⟨rfl, _⟩ := h; exact List.mem_cons_self
  | dK kvs => obtain ⟨rfl, _⟩ := h; exact List.mem_cons_self
  | dT kvs => obtain ⟨rfl, _⟩ := h; exact List.mem_cons_self
  | dTL kvs => obtain ⟨bs, rfl, _⟩ := h; exact List.mem_cons_self
  | dKL kvs => obtain ⟨bs, rfl, _⟩ := h; exact List.mem_cons_self
  | lsL rows => obtain ⟨bs, rfl, _⟩ := h; exact List.mem_cons_self
  | ins C fs => obtain ⟨rfl, _⟩ := h; exact List.mem_cons_self
theorem OwnLs.there {HF H : Hp} : ∀ {rs : List (List PyData)} {bs : List Addr}, OwnLs HF H rs bs → ∀ b ∈ bs, ∃ o, H b = some o ∧ ∀ xs, o ≠ .tup xs
  | [], bs, h, b, hb => by cases h; cases hb
  | r :: rs, bs, h, b, hb => by
    obtain ⟨c, t, vs, rfl, h1, h2, h3, h4⟩ := h
    rcases List.mem_cons.mp hb with rfl | hb
    · exact ⟨_, h1, fun _ z => nomatch z⟩
    · exact OwnLs.there h4 b hb
theorem CellR.there {HF H : Hp} {a : Addr} {fp : List Addr} {c : Cell} (h : CellR HF H a fp c) : ∀ b ∈ fp, ∃ o, H b = some o ∧ ∀ xs, o ≠ .tup xs := by
  intro b hb
  cases c with
  | lst ds => obtain ⟨rfl, vs, h1, _⟩ := h; cases List.mem_singleton.mp hb; exact ⟨_, h1, fun _ z => nomatch z⟩
  | dK kvs => obtain ⟨rfl, vs, h1, _⟩ := h; cases List.mem_singleton.mp hb; exact ⟨_, h1, fun _ z => nomatch z⟩
  | dT kvs => obtain ⟨rfl, vs, h1, _⟩ := h; cases List.mem_singleton.mp hb; exact ⟨_, h1, fun _ z => nomatch z⟩
  | dTL kvs =>
    obtain ⟨bs, rfl, h1, h3, _⟩ := h
    rcases List.mem_cons.mp hb with rfl | hb
    · exact ⟨_, h1, fun _ z => nomatch z⟩
    · exact h3.there b hb
  | dKL kvs =>
    obtain ⟨bs, rfl, h1, h3, _⟩ := h
    rcases List.mem_cons.mp hb with rfl | hb
    · exact ⟨_, h1, fun _ z => nomatch z⟩
    · exact h3.there b hb
  | lsL rows =>
    obtain ⟨bs, rfl, h1, h2, h3⟩ := h
    rcases List.mem_cons.mp hb with rfl | hb
    · exact ⟨_, h1, fun _ z => nomatch z⟩
    · exact h3.there b hb
  | ins C fs => obtain ⟨rfl, dx, vf, h1, _⟩ := h; cases List.mem_singleton.mp hb; exact ⟨_, h1, fun _ z => nomatch z⟩

/-! ### words -/
abbrev Wd := List Nat
def S (w : Wd) : Str := ⟨w.toArray⟩
abbrev cI : Int → PyData := .int
abbrev cB : Bool → PyData := .bool
abbrev cS (w : Wd) : PyData := .str (S w)
def okW (w : Wd) : Bool := w.all (· < 0x110000)
theorem S_len (w : Wd) : (S w).length = w.length := by show w.toArray.size = w.length; simp
theorem S_app (u w : Wd) : S u ++ S w = S (u ++ w) := by
  show Str.mk (u.toArray ++ w.toArray) = Str.mk (u ++ w).toArray
  rw [List.append_toArray]
theorem S_inj {u w : Wd} (h : S u = S w) : u = w := by
  have := congrArg (fun s : Str => s.cps.toList) h
  simpa [S] using this
theorem S_list (w : Wd) : (S w).cps.toList = w := by simp [S]
theorem S_ok {w : Wd} : PyData.strOk (S w) = okW w := by unfold PyData.strOk okW S; rw [← Array.all_toList]
theorem S_of (x : Str) : x = S x.cps.toList := by cases x; simp [S]
theorem Rp.word {H : Hp} {w : Wd} {v : V} (h : Rp H (cS w) v) : v = .str (S w) ∧ w.length ≤ sizeLine ∧ okW w = true := by
  obtain ⟨h1, h2, h3⟩ := h
  exact ⟨h1, by rw [← S_len]; exact h2, by rw [← S_ok]; exact h3⟩
theorem Rp.ofWord {H : Hp} {w : Wd} (h1 : w.length ≤ sizeLine) (h2 : okW w = true) : Rp H (cS w) (.str (S w)) := ⟨rfl, by rw [S_len]; exact h1, by rw [S_ok]; exact h2⟩
theorem RD.rp {H : Hp} {p : PyData} {v : V} (h : RD H (.v p) v) : Rp H p v := h
theorem RD.word {H : Hp} {w : Wd} {v : V} (h : RD H (.v (cS w)) v) : v = .str (S w) ∧ w.length ≤ sizeLine ∧ okW w = true := Rp.word (RD.rp h)
theorem rdW {H : Hp} {w : Wd} (h1 : w.length ≤ sizeLine) (h2 : okW w = true) : RD H (.v (cS w)) (.str (S w)) := Rp.ofWord (H := H) h1 h2
theorem okW_app {u w : Wd} (h1 : okW u = true) (h2 : okW w = true) : okW (u ++ w) = true := by unfold okW at *; rw [List.all_append, h1, h2]; rfl

/-! ### the state -/
abbrev En := List (Option D)
abbrev Sto := List (Addr × Cell)
/-- what a def found at its entry: G is kept as it stands, F is what the data of its arguments lean on -/
structure Zone where
  G : Hp
  F : Hp
structure SK (Z : Zone) (HF H : Hp) (σ : L2.St) (ρ : En) (ω : Sto) : Prop where
  gh : Same Z.G H
  fh : Same HF H
  f0 : Same Z.F HF
  nw : ∀ b o, HF b = some o → (∃ u, Z.F b = some u) ∨ Z.G b = none ∨ ∃ xs, o = .tup xs
  ln : σ.length = ρ.length
  sl : ∀ (i : Nat) (d : D), ρ[i]? = some (some d) → ∃ v, σ[i]? = some (some v) ∧ RD HF d v
  cs : ∃ f : Nat → List Addr, (∀ (j : Nat) (a : Addr) (c : Cell), ω[j]? = some (a, c) → CellR HF H a (f j) c ∧ (f j).Nodup ∧ ∀ b ∈ f j, HF b = none ∧ Z.G b = none) ∧
    ∀ (i j : Nat), i < j → j < ω.length → ∀ b ∈ f i, b ∉ f j
section
variable {Z : Zone} {HF H HF' H' : Hp} {σ : L2.St} {ρ ρ' : En} {ω ω' : Sto}
theorem SK.cell (S : SK Z HF H σ ρ ω) {j : Nat} {a : Addr} {c : Cell} (h : ω[j]? = some (a, c)) : ∃ fp, CellR HF H a fp c := by
  obtain ⟨f, h1, _⟩ := S.cs
  exact ⟨f j, (h1 j a c h).1⟩
theorem SK.fresh (S : SK Z HF H σ ρ ω) {p : Addr} (h : H p = none) : HF p = none ∧ Z.G p = none := by
  constructor
  · cases q : HF p with
    | none => rfl
    | some o => rw [S.fh _ _ q] at h; cases h
  · cases q : Z.G p with
    | none => rfl
    | some o => rw [S.gh _ _ q] at h; cases h
theorem SK.slot (S : SK Z HF H σ ρ ω) {i : Nat} {d : D} (h : ρ[i]? = some (some d)) : ∃ v, σ[i]? = some (some v) ∧ RD HF d v := S.sl i d h
theorem same_new {H : Hp} {p : Addr} {o : HO} (h : H p = none) : Same H (upd H p o) := fun b u e => by
  rw [upd_ne (ne_of_none e h)]
  exact e
/-- a new object of data -/
theorem SK.newF (S : SK Z HF H σ ρ ω) {p : Addr} (o : HO) (h : H p = none) : SK Z (upd HF p o) (upd H p o) σ ρ ω ∧ Same HF (upd HF p o) := by
  have hf := (S.fresh h).1
  have hg := (S.fresh h).2
  have e1 : Same HF (upd HF p o) := same_new hf
  refine ⟨⟨S.gh.trans (same_new h), fun b u q => ?_, S.f0.trans e1, fun b u q => ?_, S.ln, fun i d q => ?_, ?_⟩, e1⟩
  · by_cases hb : b = p
    · subst hb; rw [upd_same] at q; rw [upd_same]; exact q
    · rw [upd_ne hb] at q; rw [upd_ne hb]; exact S.fh b u q
  · by_cases hb : b = p
    · subst hb; exact .inr (.inl hg)
    · rw [upd_ne hb] at q; exact S.nw b u q
  · obtain ⟨v, h1, h2⟩ := S.sl i d q
    exact ⟨v, h1, h2.mono e1⟩
  · obtain ⟨f, h1, h2⟩ := S.cs
    refine ⟨f, fun j a c q => ?_, h2⟩
    obtain ⟨r1, r2, r3⟩ := h1 j a c q
    have ne : ∀ b ∈ f j, b ≠ p := fun b hb => by
      obtain ⟨o', q', _⟩ := r1.there b hb
      exact ne_of_none q' h
    refine ⟨r1.mono e1 fun b hb => by rw [upd_ne (ne b hb)], r2, fun b hb => ⟨by rw [upd_ne (ne b hb)]; exact (r3 b hb).1, (r3 b hb).2⟩⟩
/-- a new object that nobody names -/
theorem SK.newX (S : SK Z HF H σ ρ ω) {p : Addr} (o : HO) (h : H p = none) : SK Z HF (upd H p o) σ ρ ω := by
  refine ⟨S.gh.trans (same_new h), S.fh.trans (same_new h), S.f0, S.nw, S.ln, S.sl, ?_⟩
  obtain ⟨f, h1, h2⟩ := S.cs
  refine ⟨f, fun j a c q => ?_, h2⟩
  obtain ⟨r1, r2, r3⟩ := h1 j a c q
  have ne : ∀ b ∈ f j, b ≠ p := fun b hb => by
    obtain ⟨o', q', _⟩ := r1.there b hb
    exact ne_of_none q' h
  exact ⟨r1.mono (Same.refl _) fun b hb => by rw [upd_ne (ne b hb)], r2, r3⟩
/-- a new cell of one's own (its footprint: its address alone) -/
theorem SK.newC (S : SK Z HF H σ ρ ω) {p : Addr} {o : HO} {c : Cell} (h : H p = none) (hc : CellR HF (upd H p o) p [p] c) : SK Z HF (upd H p o) σ ρ (ω ++ [(p, c)]) := by
  have S1 := S.newX o h
  refine ⟨S1.gh, S1.fh, S1.f0, S1.nw, S1.ln, S1.sl, ?_⟩
  obtain ⟨f, h1, h2⟩ := S.cs
  obtain ⟨hf, hg⟩ := S.fresh h
  refine ⟨fun j => if j = ω.length then [p] else f j, fun j a c' q => ?_, fun i j hij hj b hb => ?_⟩
  · by_cases hj : j = ω.length
    · subst hj
      rw [List.getElem?_append_right (Nat.le_refl _), Nat.sub_self] at q
      cases (Option.some.inj q)
      simp only [if_pos]
      exact ⟨hc, by simp, fun b hb => by cases List.mem_singleton.mp hb; exact ⟨hf, hg⟩⟩
    · have hl : j < ω.length := by
        have := (List.getElem?_eq_some_iff.mp q).1
        simp at this
        omega
      rw [List.getElem?_append_left hl] at q
      simp only [if_neg hj]
      obtain ⟨r1, r2, r3⟩ := h1 j a c' q
      have ne : ∀ b ∈ f j, b ≠ p := fun b hb => by
        obtain ⟨o', q', _⟩ := r1.there b hb
        exact ne_of_none q' h
      exact ⟨r1.mono (Same.refl _) fun b hb => by rw [upd_ne (ne b hb)], r2, r3⟩
  · simp at hj
    have hi : i ≠ ω.length := by omega
    simp only [if_neg hi] at hb
    by_cases hj2 : j = ω.length
    · simp only [if_pos hj2]
      intro hm
      have eb : b = p := List.mem_singleton.mp hm
      have hil : i < ω.length := by omega
      obtain ⟨r1, _, _⟩ := h1 i ω[i].1 ω[i].2 (List.getElem?_eq_getElem hil)
      obtain ⟨o', q', _⟩ := r1.there b hb
      rw [eb, h] at q'; cases q'
    · simp only [if_neg hj2]
      exact h2 i j hij (by omega) b hb
/-- the j-th cell written: its footprint may grow by free addresses -/
theorem SK.wrote (S : SK Z HF H σ ρ ω) {j : Nat} {a : Addr} {c c' : Cell} {H' : Hp} (hj : ω[j]? = some (a, c))
    (hk : ∀ fp, CellR HF H a fp c → fp.Nodup → ∃ fp', CellR HF H' a fp' c' ∧ fp'.Nodup ∧ (∀ b ∈ fp', b ∈ fp ∨ H b = none) ∧ ∀ b, b ∉ fp → b ∉ fp' → H' b = H b) : SK Z HF H' σ ρ (ω.set j (a, c')) := by
  obtain ⟨f, h1, h2⟩ := S.cs
  obtain ⟨r1, r2, r3⟩ := h1 j a c hj
  obtain ⟨fp', k1, k2, k3, k4⟩ := hk (f j) r1 r2
  have jl := (List.getElem?_eq_some_iff.mp hj).1
  have out : ∀ b o, HF b = some o → b ∉ f j ∧ b ∉ fp' := fun b o q => by
    refine ⟨fun m => ?_, fun m => ?_⟩
    · rw [(r3 b m).1] at q; cases q
    · rcases k3 b m with m | m
      · rw [(r3 b m).1] at q; cases q
      · rw [S.fh _ _ q] at m; cases m
  have outG : ∀ b o, Z.G b = some o → b ∉ f j ∧ b ∉ fp' := fun b o q => by
    refine ⟨fun m => ?_, fun m => ?_⟩
    · rw [(r3 b m).2] at q; cases q
    · rcases k3 b m with m | m
      · rw [(r3 b m).2] at q; cases q
      · rw [S.gh _ _ q] at m; cases m
  have dis : ∀ i, i ≠ j → i < ω.length → ∀ b ∈ f i, b ∉ f j := fun i hij hi b hb => by
    rcases Nat.lt_or_gt_of_ne hij with q | q
    · exact h2 i j q jl b hb
    · exact fun m => h2 j i q hi b m hb
  have dis' : ∀ i, i ≠ j → i < ω.length → ∀ b ∈ f i, b ∉ fp' := fun i hij hi b hb m => by
    rcases k3 b m with m | m
    · exact dis i hij hi b hb m
    · obtain ⟨q1, _, _⟩ := h1 i ω[i].1 ω[i].2 (List.getElem?_eq_getElem hi)
      obtain ⟨o', q', _⟩ := q1.there b hb
      rw [m] at q'; cases q'
  refine ⟨fun b o q => ?_, fun b o q => ?_, S.f0, S.nw, S.ln, S.sl, fun i => if i = j then fp' else f i, fun i x y q => ?_, fun i k hik hk' b hb => ?_⟩
  · rw [k4 b (outG b o q).1 (outG b o q).2]; exact S.gh b o q
  · rw [k4 b (out b o q).1 (out b o q).2]; exact S.fh b o q
  · by_cases hi : i = j
    · subst hi
      rw [List.getElem?_set_self jl] at q
      cases (Option.some.inj q)
      simp only [if_pos]
      refine ⟨k1, k2, fun b m => ?_⟩
      rcases k3 b m with m | m
      · exact r3 b m
      · exact S.fresh m
    · rw [List.getElem?_set_ne (Ne.symm hi)] at q
      simp only [if_neg hi]
      obtain ⟨q1, q2, q3⟩ := h1 i x y q
      have hl := (List.getElem?_eq_some_iff.mp q).1
      exact ⟨q1.mono (Same.refl _) fun b hb => k4 b (dis i hi hl b hb) (dis' i hi hl b hb), q2, q3⟩
  · rw [List.length_set] at hk'
    by_cases hi : i = j
    · subst hi
      simp only [if_pos] at hb
      have hk2 : k ≠ i := by omega
      simp only [if_neg hk2]
      intro m
      exact dis' k hk2 hk' b m hb
    · simp only [if_neg hi] at hb
      by_cases hk2 : k = j
      · subst hk2
        simp only [if_pos]
        exact dis' i hi (by omega) b hb
      · simp only [if_neg hk2]
        exact h2 i k hik hk' b hb
/-- some of the cells, in any order -/
theorem SK.pick (S : SK Z HF H σ ρ ω) {js : List Nat} (h : js.map (fun j => ω[j]?) = ω'.map some) (hn : js.Nodup) : SK Z HF H σ ρ ω' := by
  obtain ⟨f, h1, h2⟩ := S.cs
  have hl : js.length = ω'.length := by
    have := congrArg List.length h
    simpa using this
  have at_ : ∀ (i : Nat) (hi : i < js.length) (p : Addr × Cell), ω'[i]? = some p → ω[js[i]]? = some p := fun i hi p q => by
    have e := congrArg (fun l => l[i]?) h
    simp only [List.getElem?_map, List.getElem?_eq_getElem hi, q, Option.map_some] at e
    exact Option.some.inj e
  refine ⟨S.gh, S.fh, S.f0, S.nw, S.ln, S.sl, fun i => f (js.getD i 0), fun i a c q => ?_, fun i k hik hk b hb => ?_⟩
  · have hi : i < js.length := by rw [hl]; exact (List.getElem?_eq_some_iff.mp q).1
    have e : js.getD i 0 = js[i] := by simp [List.getD, List.getElem?_eq_getElem hi]
    simp only [e]
    exact h1 _ a c (at_ i hi _ q)
  · have hk2 : k < js.length := by omega
    have hi2 : i < js.length := by omega
    have e1 : js.getD i 0 = js[i] := by simp [List.getD, List.getElem?_eq_getElem hi2]
    have e2 : js.getD k 0 = js[k] := by simp [List.getD, List.getElem?_eq_getElem hk2]
    simp only [e1] at hb
    simp only [e2]
    have b1 := (List.getElem?_eq_some_iff.mp (at_ i hi2 _ (List.getElem?_eq_getElem (by omega)))).1
    have b2 := (List.getElem?_eq_some_iff.mp (at_ k hk2 _ (List.getElem?_eq_getElem hk))).1
    have ne : js[i] ≠ js[k] := fun e => by
      have := (List.getElem_inj hn).mp e
      omega
    rcases Nat.lt_or_gt_of_ne ne with q | q
    · exact h2 _ _ q b2 b hb
    · exact fun m => h2 _ _ q b1 b m hb
/-- less is said of the slots -/
def Wk : En → En → Prop
  | [], [] => True
  | a :: r, b :: s => (b = none ∨ a = b) ∧ Wk r s
  | _, _ => False
theorem Wk.get : ∀ {ρ ρ' : En} {i : Nat} {d : D}, Wk ρ ρ' → ρ'[i]? = some (some d) → ρ[i]? = some (some d)
  | [], [], _, _, _, h => h
  | a :: r, b :: s, 0, d, w, h => by
    rcases w.1 with e | e
    · subst e; simp at h
    · subst e; exact h
  | a :: r, b :: s, i + 1, d, w, h => Wk.get (i := i) w.2 h
  | [], b :: s, _, _, w, _ => w.elim
  | a :: r, [], _, _, w, _ => w.elim
theorem Wk.length : ∀ {ρ ρ' : En}, Wk ρ ρ' → ρ.length = ρ'.length
  | [], [], _ => rfl
  | a :: r, b :: s, w => by rw [List.length_cons, List.length_cons, Wk.length w.2]
  | [], b :: s, w => w.elim
  | a :: r, [], w => w.elim
theorem Wk.refl : ∀ (ρ : En), Wk ρ ρ
  | [] => trivial
  | a :: r => ⟨.inr rfl, Wk.refl r⟩
theorem SK.weak (S : SK Z HF H σ ρ ω) (w : Wk ρ ρ') : SK Z HF H σ ρ' ω :=
  ⟨S.gh, S.fh, S.f0, S.nw, S.ln.trans w.length, fun i d q => S.sl i d (w.get q), S.cs⟩
theorem SK.noenv (S : SK Z HF H σ ρ ω) : SK Z HF H [] [] ω := ⟨S.gh, S.fh, S.f0, S.nw, rfl, fun i d q => by simp at q, S.cs⟩
theorem SK.env (S : SK Z HF H σ ρ ω) {σ' : L2.St} {ρ' : En} (hl : σ'.length = ρ'.length) (h : ∀ (i : Nat) (d : D), ρ'[i]? = some (some d) → ∃ v, σ'[i]? = some (some v) ∧ RD HF d v) : SK Z HF H σ' ρ' ω := ⟨S.gh, S.fh, S.f0, S.nw, hl, h, S.cs⟩
theorem SK.back (S : SK Z HF H σ ρ ω) (e : Same HF HF') {σ' : L2.St} {ρ' : En} (S' : SK Z HF' H' σ' ρ' ω') : SK Z HF' H' σ ρ ω' :=
  ⟨S'.gh, S'.fh, S'.f0, S'.nw, S.ln, fun i d q => let ⟨v, h1, h2⟩ := S.sl i d q; ⟨v, h1, h2.mono e⟩, S'.cs⟩
/-- a slot stored -/
theorem SK.set (S : SK Z HF H σ ρ ω) (i : Nat) {d : D} {v : V} (r : RD HF d v) : SK Z HF H (σ.set i (some v)) (ρ.set i (some d)) ω := by
  refine ⟨S.gh, S.fh, S.f0, S.nw, by rw [List.length_set, List.length_set]; exact S.ln, fun j x q => ?_, S.cs⟩
  by_cases h : i = j
  · subst h
    have hl : i < ρ.length := by
      have := (List.getElem?_eq_some_iff.mp q).1
      rwa [List.length_set] at this
    rw [List.getElem?_set_self hl] at q
    cases (Option.some.inj (Option.some.inj q))
    exact ⟨v, by rw [List.getElem?_set_self (by rw [S.ln]; exact hl)], r⟩
  · rw [List.getElem?_set_ne h] at q
    obtain ⟨u, h1, h2⟩ := S.sl j x q
    exact ⟨u, by rw [List.getElem?_set_ne h]; exact h1, h2⟩
theorem SK.unset (S : SK Z HF H σ ρ ω) (i : Nat) (x : Option V) : SK Z HF H (σ.set i x) (ρ.set i none) ω := by
  refine ⟨S.gh, S.fh, S.f0, S.nw, by rw [List.length_set, List.length_set]; exact S.ln, fun j d q => ?_, S.cs⟩
  by_cases h : i = j
  · subst h
    have hl : i < ρ.length := by
      have := (List.getElem?_eq_some_iff.mp q).1
      rwa [List.length_set] at this
    rw [List.getElem?_set_self hl] at q
    simp at q
  · rw [List.getElem?_set_ne h] at q
    obtain ⟨u, h1, h2⟩ := S.sl j d q
    exact ⟨u, by rw [List.getElem?_set_ne h]; exact h1, h2⟩
/-- a tuple that stands is data -/
theorem SK.tupF (S : SK Z HF H σ ρ ω) {p : Addr} {xs : List V} (h : H p = some (.tup xs)) : SK Z (upd HF p (.tup xs)) H σ ρ ω ∧ Same HF (upd HF p (.tup xs)) := by
  have e1 : Same HF (upd HF p (.tup xs)) := fun b o q => by
    by_cases hb : b = p
    · subst hb
      have := S.fh _ _ q
      rw [h] at this
      rw [upd_same]; exact this
    · rw [upd_ne hb]; exact q
  refine ⟨⟨S.gh, fun b u q => ?_, S.f0.trans e1, fun b u q => ?_, S.ln, fun i d q => ?_, ?_⟩, e1⟩
  · by_cases hb : b = p
    · subst hb; rw [upd_same] at q; cases q; exact h
    · rw [upd_ne hb] at q; exact S.fh b u q
  · by_cases hb : b = p
    · subst hb; rw [upd_same] at q; cases q; exact .inr (.inr ⟨xs, rfl⟩)
    · rw [upd_ne hb] at q; exact S.nw b u q
  · obtain ⟨v, h1, h2⟩ := S.sl i d q
    exact ⟨v, h1, h2.mono e1⟩
  · obtain ⟨f, h1, h2⟩ := S.cs
    refine ⟨f, fun j a c q => ?_, h2⟩
    obtain ⟨r1, r2, r3⟩ := h1 j a c q
    have ne : ∀ b ∈ f j, b ≠ p := fun b hb eb => by
      obtain ⟨o', q', nt⟩ := r1.there b hb
      rw [eb, h] at q'
      exact nt xs (Option.some.inj q').symm
    exact ⟨r1.mono e1 fun _ _ => rfl, r2, fun b hb => ⟨by rw [upd_ne (ne b hb)]; exact (r3 b hb).1, (r3 b hb).2⟩⟩
/-- some cells handed on, the rest kept out of sight -/
theorem SK.sub {ωp ωr : Sto} (S : SK Z HF H σ ρ (ωp ++ ωr)) : ∃ Z', SK Z' HF H σ ρ ωp ∧ (∀ HF' H' σ' ρ' ωp', Same HF HF' → SK Z' HF' H' σ' ρ' ωp' → SK Z HF' H' σ' ρ' (ωp' ++ ωr)) := by
  obtain ⟨f, h1, h2⟩ := S.cs
  have inl : ∀ {j : Nat}, j < ωp.length → (ωp ++ ωr)[j]? = ωp[j]? := fun h => List.getElem?_append_left h
  have at_ : ∀ {j : Nat}, j < (ωp ++ ωr).length → ∃ a c, (ωp ++ ωr)[j]? = some (a, c) := fun {j} h => ⟨_, _, List.getElem?_eq_getElem h⟩
  have llen : (ωp ++ ωr).length = ωp.length + ωr.length := List.length_append
  let M : Addr → Prop := fun b => ∃ j, j < ωp.length ∧ b ∈ f j
  let G' : Hp := fun b => open Classical in if M b then none else H b
  have g1 : ∀ b, M b → G' b = none := fun b m => by show (open Classical in if M b then none else H b) = none; rw [if_pos m]
  have g2 : ∀ b, ¬ M b → G' b = H b := fun b m => by show (open Classical in if M b then none else H b) = H b; rw [if_neg m]
  have g3 : ∀ b o, G' b = some o → ¬ M b ∧ H b = some o := fun b o q => by
    by_cases m : M b
    · rw [g1 b m] at q; cases q
    · rw [g2 b m] at q; exact ⟨m, q⟩
  have mN : ∀ b, M b → HF b = none ∧ Z.G b = none := fun b ⟨j, hj, hb⟩ => by
    obtain ⟨a, c, q⟩ := at_ (j := j) (by omega)
    exact (h1 j a c q).2.2 b hb
  refine ⟨⟨G', HF⟩, ⟨fun b o q => (g3 b o q).2, S.fh, Same.refl _, fun b o q => .inl ⟨o, q⟩, S.ln, S.sl, f, fun j a c q => ?_, fun i j hij hj => h2 i j hij (by omega)⟩, fun HF' H' σ' ρ' ωp' e S' => ?_⟩
  · have hj := (List.getElem?_eq_some_iff.mp q).1
    obtain ⟨r1, r2, r3⟩ := h1 j a c (by rw [inl hj]; exact q)
    exact ⟨r1, r2, fun b hb => ⟨(r3 b hb).1, g1 b ⟨j, hj, hb⟩⟩⟩
  · obtain ⟨f', k1, k2⟩ := S'.cs
    have outM : ∀ j, ωp.length ≤ j → j < (ωp ++ ωr).length → ∀ b ∈ f j, ¬ M b := fun j h3 h4 b hb ⟨i, hi, hm⟩ => h2 i j (by omega) h4 b hm hb
    have keep : ∀ j, ωp.length ≤ j → j < (ωp ++ ωr).length → ∀ b ∈ f j, H' b = H b ∧ HF' b = none ∧ G' b ≠ none := fun j h3 h4 b hb => by
      obtain ⟨a, c, q⟩ := at_ h4
      obtain ⟨r1, r2, r3⟩ := h1 j a c q
      obtain ⟨o, qo, nt⟩ := r1.there b hb
      have gb : G' b = some o := by rw [g2 b (outM j h3 h4 b hb)]; exact qo
      have hb' : H' b = some o := S'.gh b o gb
      refine ⟨hb'.trans qo.symm, ?_, by rw [gb]; exact fun z => nomatch z⟩
      cases qf : HF' b with
      | none => rfl
      | some u =>
        rcases S'.nw b u qf with ⟨x, hx⟩ | hx | ⟨xs, hx⟩
        · have hx' : HF b = some x := hx
          rw [(r3 b hb).1] at hx'; cases hx'
        · have hx' : G' b = none := hx
          rw [gb] at hx'; cases hx'
        · have := S'.fh b u qf
          rw [hb'] at this
          exact absurd ((Option.some.inj this).trans hx) (nt xs)
    refine ⟨fun b o q => S'.gh b o ?_, S'.fh, S.f0.trans e, fun b o q => ?_, S'.ln, S'.sl, fun j => if j < ωp'.length then f' j else f (j - ωp'.length + ωp.length), fun j a c q => ?_, fun i j hij hj b hb => ?_⟩
    · show G' b = some o
      rw [g2 b fun m => by rw [(mN b m).2] at q; cases q]
      exact S.gh b o q
    · rcases S'.nw b o q with ⟨u, hu⟩ | hn | ht
      · exact S.nw b u hu |>.elim .inl fun z => z.elim (fun z => .inr (.inl z)) fun ⟨xs, z⟩ => by
          have hu' : HF b = some u := hu
          have := e b u hu'
          rw [q] at this
          exact .inr (.inr ⟨xs, (Option.some.inj this).trans z⟩)
      · have hn' : G' b = none := hn
        by_cases m : M b
        · exact .inr (.inl (mN b m).2)
        · rw [g2 b m] at hn'
          exact .inr (.inl (S.fresh hn').2)
      · exact .inr (.inr ht)
    · by_cases hj : j < ωp'.length
      · rw [List.getElem?_append_left hj] at q
        simp only [if_pos hj]
        obtain ⟨r1, r2, r3⟩ := k1 j a c q
        refine ⟨r1, r2, fun b hb => ⟨(r3 b hb).1, ?_⟩⟩
        have hg : G' b = none := (r3 b hb).2
        by_cases m : M b
        · exact (mN b m).2
        · rw [g2 b m] at hg
          exact (S.fresh hg).2
      · have hl := (List.getElem?_eq_some_iff.mp q).1
        rw [List.getElem?_append_right (by omega)] at q
        simp only [if_neg hj]
        have hl2 : j - ωp'.length < ωr.length := (List.getElem?_eq_some_iff.mp q).1
        have hq : (ωp ++ ωr)[j - ωp'.length + ωp.length]? = some (a, c) := by
          rw [List.getElem?_append_right (by omega), Nat.add_sub_cancel]; exact q
        obtain ⟨r1, r2, r3⟩ := h1 _ a c hq
        have kk := keep (j - ωp'.length + ωp.length) (by omega) (by omega)
        exact ⟨r1.mono e fun b hb => (kk b hb).1, r2, fun b hb => ⟨(kk b hb).2.1, (r3 b hb).2⟩⟩
    · rw [List.length_append] at hj
      by_cases hi : i < ωp'.length
      · simp only [if_pos hi] at hb
        by_cases hj2 : j < ωp'.length
        · simp only [if_pos hj2]
          exact k2 i j hij hj2 b hb
        · simp only [if_neg hj2]
          intro m
          obtain ⟨a, c, q⟩ : ∃ a c, ωp'[i]? = some (a, c) := ⟨_, _, List.getElem?_eq_getElem hi⟩
          have hg : G' b = none := ((k1 i a c q).2.2 b hb).2
          exact (keep (j - ωp'.length + ωp.length) (by omega) (by omega) b m).2.2 hg
      · have hj2 : ¬ j < ωp'.length := by omega
        simp only [if_neg hi] at hb
        simp only [if_neg hj2]
        exact h2 _ _ (by omega) (by omega) b hb
end
end Q
end

section
set_option Elab.async false
set_option linter.all false
set_option maxRecDepth 100000
set_option maxHeartbeats 1000000
/-! LAYER 2: expressions. -/
namespace Q
open PySem L2

/-! ### one canonical reading for each judgement -/
def teD (ρ : En) (ω : Sto) (d : D) (ω' : Sto) : TE := fun σ H Q => ∃ Z HF, SK Z HF H σ ρ ω ∧ ∀ v HF' H', Same HF HF' → SK Z HF' H' σ ρ ω' → RD HF' d v → Q v H'
def teN (ρ : En) (ω : Sto) (c : Cell) (ω' : Sto) : TE := fun σ H Q => ∃ Z HF, SK Z HF H σ ρ ω ∧ ∀ a HF' H', Same HF HF' → SK Z HF' H' σ ρ (ω' ++ [(a, c)]) → Q (.ref a) H'
def taD (ρ : En) (ω : Sto) (ds : List D) (ω' : Sto) : TA := fun σ H Q => ∃ Z HF, SK Z HF H σ ρ ω ∧ ∀ vs HF' H', Same HF HF' → SK Z HF' H' σ ρ ω' → RDs HF' ds vs → Q vs H'
def ttD (ρ : En) (ω : Sto) (b : Bool) (ω' : Sto) : TT := fun σ H Q => ∃ Z HF, SK Z HF H σ ρ ω ∧ ∀ HF' H', Same HF HF' → SK Z HF' H' σ ρ ω' → Q b H'
def toD (ρ : En) (ω : Sto) (o : Option Int) (ω' : Sto) : TO := fun σ H Q => ∃ Z HF, SK Z HF H σ ρ ω ∧ ∀ HF' H', Same HF HF' → SK Z HF' H' σ ρ ω' → Q o H'
/-- e is the value d | a new cell c -/
abbrev DE (X : Cx) (e : Expr) (ρ : En) (ω : Sto) (d : D) (ω' : Sto) : Prop := PE X e (teD ρ ω d ω')
abbrev DN (X : Cx) (e : Expr) (ρ : En) (ω : Sto) (c : Cell) (ω' : Sto) : Prop := PE X e (teN ρ ω c ω')
abbrev DA (X : Cx) (es : List Expr) (ρ : En) (ω : Sto) (ds : List D) (ω' : Sto) : Prop := PA X es (taD ρ ω ds ω')
abbrev DT (X : Cx) (e : Expr) (ρ : En) (ω : Sto) (b : Bool) (ω' : Sto) : Prop := PT X e (ttD ρ ω b ω')
abbrev DW (X : Cx) (e : Expr) (ρ : En) (ω : Sto) (b : Bool) (ω' : Sto) : Prop := PW X e (ttD ρ ω b ω')
abbrev DO (X : Cx) (e : Option Expr) (ρ : En) (ω : Sto) (o : Option Int) (ω' : Sto) : Prop := PO X e (toD ρ ω o ω')

section
variable {X : Cx}
theorem pe_mono {e : Expr} {t t' : TE} (h : PE X e t) (i : ∀ σ H Q, t' σ H Q → t σ H Q) : PE X e t' := ⟨fun pins s σ H Q I hw => h.run pins s σ H Q I (i _ _ _ hw)⟩
theorem pt_mono {e : Expr} {t t' : TT} (h : PT X e t) (i : ∀ σ H Q, t' σ H Q → t σ H Q) : PT X e t' := ⟨fun pins s σ H Q I hw => h.run pins s σ H Q I (i _ _ _ hw)⟩
theorem pw_mono {e : Expr} {t t' : TT} (h : PW X e t) (i : ∀ σ H Q, t' σ H Q → t σ H Q) : PW X e t' := ⟨fun wh pins s σ H Q I hw => h.run wh pins s σ H Q I (i _ _ _ hw)⟩
theorem pa_mono {e : List Expr} {t t' : TA} (h : PA X e t) (i : ∀ σ H Q, t' σ H Q → t σ H Q) : PA X e t' := ⟨fun ps pins s σ H Q I hw => h.run ps pins s σ H Q I (i _ _ _ hw)⟩
theorem po_mono {e : Option Expr} {t t' : TO} (h : PO X e t) (i : ∀ σ H Q, t' σ H Q → t σ H Q) : PO X e t' := ⟨fun pins s σ H Q I hw => h.run pins s σ H Q I (i _ _ _ hw)⟩
theorem ps_mono {e : Stmt} {t t' : TS} (h : PS X e t) (i : ∀ D σ H, t' D σ H → t D σ H) : PS X e t' := ⟨fun pins s σ H D I hw => h.run pins s σ H D I (i _ _ _ hw)⟩
theorem pss_mono {e : List Stmt} {t t' : TS} (h : PSs X e t) (i : ∀ D σ H, t' D σ H → t D σ H) : PSs X e t' := ⟨fun pins s σ H D I hw => h.run pins s σ H D I (i _ _ _ hw)⟩
theorem pi_mono {tg e : Expr} {t t' : TI} (h : PI X tg e t) (i : ∀ σ H R, t' σ H R → t σ H R) : PI X tg e t' := ⟨fun pins s σ H R I hw => h.run pins s σ H R I (i _ _ _ hw)⟩
theorem pg_mono {e : Expr} {t t' : TG} (h : PG X e t) (i : ∀ v σ H Q, t' v σ H Q → t v σ H Q) : PG X e t' := by
  refine ⟨?_⟩
  intros
  apply h.run <;> first | assumption | (apply i; assumption)
/-- in a case that is not: no derivation is asked -/
theorem pe_no {e : Expr} : PE X e (fun _ _ _ => False) := ⟨fun _ _ _ _ _ _ h => h.elim⟩
theorem pt_no {e : Expr} : PT X e (fun _ _ _ => False) := ⟨fun _ _ _ _ _ _ h => h.elim⟩
theorem pw_no {e : Expr} : PW X e (fun _ _ _ => False) := ⟨fun _ _ _ _ _ _ _ h => h.elim⟩
theorem pss_no {e : List Stmt} : PSs X e (fun _ _ _ => False) := ⟨fun _ _ _ _ _ _ h => h.elim⟩
/-- a derivation in case c -/
theorem pe_case {e : Expr} {t : TE} {c : Prop} (h : c → PE X e t) : PE X e (fun σ H Q => c ∧ t σ H Q) := ⟨fun pins s σ H Q I hw => (h hw.1).run pins s σ H Q I hw.2⟩
theorem pt_case {e : Expr} {t : TT} {c : Prop} (h : c → PT X e t) : PT X e (fun σ H Q => c ∧ t σ H Q) := ⟨fun pins s σ H Q I hw => (h hw.1).run pins s σ H Q I hw.2⟩
theorem pw_case {e : Expr} {t : TT} {c : Prop} (h : c → PW X e t) : PW X e (fun σ H Q => c ∧ t σ H Q) := ⟨fun wh pins s σ H Q I hw => (h hw.1).run wh pins s σ H Q I hw.2⟩
theorem pss_case {e : List Stmt} {t : TS} {c : Prop} (h : c → PSs X e t) : PSs X e (fun D σ H => c ∧ t D σ H) := ⟨fun pins s σ H D I hw => (h hw.1).run pins s σ H D I hw.2⟩
theorem ps_case {e : Stmt} {t : TS} {c : Prop} (h : c → PS X e t) : PS X e (fun D σ H => c ∧ t D σ H) := ⟨fun pins s σ H D I hw => (h hw.1).run pins s σ H D I hw.2⟩
/-- one derivation for a family -/
theorem pe_any {ι : Type} {e : Expr} {t : ι → TE} (h : ∀ i, PE X e (t i)) : PE X e (fun σ H Q => ∃ i, t i σ H Q) := ⟨fun pins s σ H Q I ⟨i, hw⟩ => (h i).run pins s σ H Q I hw⟩
theorem pss_any {ι : Type} {e : List Stmt} {t : ι → TS} (h : ∀ i, PSs X e (t i)) : PSs X e (fun D σ H => ∃ i, t i D σ H) := ⟨fun pins s σ H D I ⟨i, hw⟩ => (h i).run pins s σ H D I hw⟩
end

section
variable {X : Cx} {ρ : En} {ω ω1 ω2 ω3 ω4 : Sto} {d d1 d2 d3 : D} {e a b c : Expr} {es : List Expr} {pos : Pos}

theorem d_cast {ω' : Sto} (h : DE X e ρ ω d1 ω1) (e1 : d1 = d2) (e2 : ω1 = ω') : DE X e ρ ω d2 ω' := e1 ▸ e2 ▸ h
/-! ### names and constants -/
theorem de_var (i : Nat) {x : Str} (h : ρ[i]? = some (some d) := by rfl) (hN : X.N[i]? = some x := by rfl)
    (hv : Vis X.env.scope x := by first | exact Or.inl rfl | exact Or.inr (Or.inl rfl) | exact Or.inr (Or.inr rfl)) (hd : (x == ("__debug__" : Str)) = false := by decide) (hcd : (x == ("__classdict__" : Str)) = false := by decide) : DE X (.Name x pos) ρ ω d ω :=
  pe_mono (pe_var hN hv hd hcd) fun σ H Q ⟨Z, HF, S, q⟩ => by
    obtain ⟨v, h1, h2⟩ := S.sl i d h
    exact ⟨v, h1, q v HF H (Same.refl _) S h2⟩
theorem te_c {v : V} (h : ∀ H, RD H d v) : ∀ σ H Q, teD ρ ω d ω σ H Q → tC v σ H Q := fun σ H Q ⟨Z, HF, S, q⟩ => q v HF H (Same.refl _) S (h HF)
theorem de_int {i : Int} {j : Nat} : DE X (.Constant (.int i) j pos) ρ ω (.v (cI i)) ω := pe_mono pe_int (te_c fun _ => rfl)
theorem de_bl {b : Bool} {j : Nat} : DE X (.Constant (.bool b) j pos) ρ ω (.v (cB b)) ω := pe_mono pe_bl (te_c fun _ => rfl)
theorem de_non {j : Nat} : DE X (.Constant .none j pos) ρ ω (.v .none) ω := pe_mono pe_non (te_c fun _ => rfl)
/-- a written text; w: its code points -/
theorem de_str {x : Str} {j : Nat} (w : Wd) (h : (x == S w) = true := by decide +kernel) (h2 : (decide (w.length ≤ 1000) && okW w) = true := by decide +kernel) : DE X (.Constant (.str x) j pos) ρ ω (.v (cS w)) ω := by
  have e : x = S w := eq_of_beq h
  subst e
  rw [Bool.and_eq_true] at h2
  exact pe_mono pe_str (te_c fun _ => rdW (Nat.le_trans (of_decide_eq_true h2.1) (by decide)) h2.2)
/-- a module's constant that is an int, a text -/
theorem de_gint {x : Str} {i : Int} {t : Tok} (hg : Gl X x) (hm : X.mg x = some (.int i t)) (hd : (x == ("__debug__" : Str)) = false := by decide) : DE X (.Name x pos) ρ ω (.v (cI i)) ω :=
  pe_mono (pe_glob (v := .int i) hg hm ⟨_, rfl⟩ hd) (te_c fun _ => rfl)
theorem de_gstr {x : Str} {y : Str} {t : Tok} (w : Wd) (hg : Gl X x) (hm : X.mg x = some (.str y t)) (h : (y == S w) = true := by decide +kernel) (h2 : (decide (w.length ≤ 1000) && okW w) = true := by decide +kernel)
    (hd : (x == ("__debug__" : Str)) = false := by decide) : DE X (.Name x pos) ρ ω (.v (cS w)) ω := by
  have e : y = S w := eq_of_beq h
  subst e
  rw [Bool.and_eq_true] at h2
  exact pe_mono (pe_glob (v := .str (S w)) hg hm ⟨_, rfl⟩ hd) (te_c fun _ => rdW (Nat.le_trans (of_decide_eq_true h2.1) (by decide)) h2.2)

/-! ### two operands -/
theorem te2 {R : V → V → Hp → VK → Prop} (h : ∀ Z HF H σ x y Q, SK Z HF H σ ρ ω2 → RD HF d1 x → RD HF d2 y → (∀ v HF' H', Same HF HF' → SK Z HF' H' σ ρ ω3 → RD HF' d3 v → Q v H') → R x y H Q) :
    ∀ σ H Q, teD ρ ω d3 ω3 σ H Q → (teD ρ ω d1 ω1) σ H (fun x H1 => (teD ρ ω1 d2 ω2) σ H1 fun y H2 => R x y H2 Q) := by
  rintro σ H Q ⟨Z, HF, S, q⟩
  exact ⟨Z, HF, S, fun x HF1 H1 e1 S1 r1 => ⟨Z, HF1, S1, fun y HF2 H2 e2 S2 r2 => h Z HF2 H2 σ x y Q S2 (r1.mono e2) r2 fun v HF3 H3 e3 S3 r3 => q v HF3 H3 ((e1.trans e2).trans e3) S3 r3⟩⟩
theorem te2n {R : V → V → Hp → VK → Prop} {cc : Cell} (h : ∀ Z HF H σ x y Q, SK Z HF H σ ρ ω2 → RD HF d1 x → RD HF d2 y → (∀ a HF' H', Same HF HF' → SK Z HF' H' σ ρ (ω3 ++ [(a, cc)]) → Q (.ref a) H') → R x y H Q) :
    ∀ σ H Q, teN ρ ω cc ω3 σ H Q → (teD ρ ω d1 ω1) σ H (fun x H1 => (teD ρ ω1 d2 ω2) σ H1 fun y H2 => R x y H2 Q) := by
  rintro σ H Q ⟨Z, HF, S, q⟩
  exact ⟨Z, HF, S, fun x HF1 H1 e1 S1 r1 => ⟨Z, HF1, S1, fun y HF2 H2 e2 S2 r2 => h Z HF2 H2 σ x y Q S2 (r1.mono e2) r2 fun v HF3 H3 e3 S3 => q v HF3 H3 ((e1.trans e2).trans e3) S3⟩⟩
theorem tt2 {R : V → V → Hp → VK → Prop} {k : Bool} (h : ∀ Z HF H σ x y Q, SK Z HF H σ ρ ω2 → RD HF d1 x → RD HF d2 y → (∀ HF' H', Same HF HF' → SK Z HF' H' σ ρ ω3 → Q (.bl k) H') → R x y H Q) :
    ∀ σ H (Q : Bool → Hp → Prop), ttD ρ ω k ω3 σ H Q → tTest (fun σ H Q => (teD ρ ω d1 ω1) σ H (fun x H1 => (teD ρ ω1 d2 ω2) σ H1 fun y H2 => R x y H2 Q)) σ H Q := by
  rintro σ H Q ⟨Z, HF, S, q⟩
  exact ⟨Z, HF, S, fun x HF1 H1 e1 S1 r1 => ⟨Z, HF1, S1, fun y HF2 H2 e2 S2 r2 => h Z HF2 H2 σ x y _ S2 (r1.mono e2) r2 fun HF3 H3 e3 S3 => ⟨k, rfl, q HF3 H3 ((e1.trans e2).trans e3) S3⟩⟩⟩
theorem de_op {op : Operator} {r : R2} (ho : OpR X (binaryOp op) r) (A : DE X a ρ ω d1 ω1) (B : DE X b ρ ω1 d2 ω2)
    (h : ∀ Z HF H σ x y Q, SK Z HF H σ ρ ω2 → RD HF d1 x → RD HF d2 y → (∀ v HF' H', Same HF HF' → SK Z HF' H' σ ρ ω3 → RD HF' d3 v → Q v H') → r x y H Q) : DE X (.BinOp a op b pos) ρ ω d3 ω3 :=
  pe_mono (pe_op ho A B) (te2 h)
theorem dn_op {op : Operator} {r : R2} {cc : Cell} (ho : OpR X (binaryOp op) r) (A : DE X a ρ ω d1 ω1) (B : DE X b ρ ω1 d2 ω2)
    (h : ∀ Z HF H σ x y Q, SK Z HF H σ ρ ω2 → RD HF d1 x → RD HF d2 y → (∀ a HF' H', Same HF HF' → SK Z HF' H' σ ρ (ω3 ++ [(a, cc)]) → Q (.ref a) H') → r x y H Q) : DN X (.BinOp a op b pos) ρ ω cc ω3 :=
  pe_mono (pe_op ho A B) (te2n h)
section
variable {i j : Int} (A : DE X a ρ ω (.v (cI i)) ω1) (B : DE X b ρ ω1 (.v (cI j)) ω2)
include A B
theorem de_add : DE X (.BinOp a .Add b pos) ρ ω (.v (cI (i + j))) ω2 := de_op op_add A B fun Z HF H σ x y Q S r1 r2 q => ⟨i, j, r1, r2, q _ HF H (Same.refl _) S rfl⟩
theorem de_sub : DE X (.BinOp a .Sub b pos) ρ ω (.v (cI (i - j))) ω2 := de_op op_sub A B fun Z HF H σ x y Q S r1 r2 q => ⟨i, j, r1, r2, q _ HF H (Same.refl _) S rfl⟩
theorem de_mul (h : (decide (-(2 ^ 64) < i ∧ i < 2 ^ 64) || decide (-(2 ^ 64) < j ∧ j < 2 ^ 64)) = true) : DE X (.BinOp a .Mult b pos) ρ ω (.v (cI (i * j))) ω2 :=
  de_op op_mul A B fun Z HF H σ x y Q S r1 r2 q => ⟨i, j, r1, r2, by
    rw [Bool.or_eq_true, decide_eq_true_eq, decide_eq_true_eq] at h
    exact h, q _ HF H (Same.refl _) S rfl⟩
theorem de_mod (h : 0 < j) : DE X (.BinOp a .Mod b pos) ρ ω (.v (cI (i % j))) ω2 := de_op op_mod A B fun Z HF H σ x y Q S r1 r2 q => ⟨i, j, r1, r2, h, q _ HF H (Same.refl _) S rfl⟩
theorem de_fdiv (h : 0 < j ∧ j < 1073741824) : DE X (.BinOp a .FloorDiv b pos) ρ ω (.v (cI (i / j))) ω2 := de_op op_fdiv A B fun Z HF H σ x y Q S r1 r2 q => ⟨i, j, r1, r2, h, q _ HF H (Same.refl _) S rfl⟩
theorem de_pow (h : 0 ≤ j ∧ j ≤ 1000000 ∧ i.natAbs < 2 ^ 64) : DE X (.BinOp a .Pow b pos) ρ ω (.v (cI (i ^ j.toNat))) ω2 := de_op op_pow A B fun Z HF H σ x y Q S r1 r2 q => ⟨i, j, r1, r2, h, q _ HF H (Same.refl _) S rfl⟩
end
theorem de_neg {i : Int} (A : DE X a ρ ω (.v (cI i)) ω1) : DE X (.UnaryOp .USub a pos) ρ ω (.v (cI (-i))) ω1 :=
  pe_mono (pe_un un_neg A) fun σ H Q ⟨Z, HF, S, q⟩ => ⟨Z, HF, S, fun v HF1 H1 e1 S1 r1 => ⟨i, r1, q _ HF1 H1 e1 S1 rfl⟩⟩
/-- texts put together -/
theorem de_addS {u w : Wd} (A : DE X a ρ ω (.v (cS u)) ω1) (B : DE X b ρ ω1 (.v (cS w)) ω2) (h : u.length + w.length ≤ sizeLine) : DE X (.BinOp a .Add b pos) ρ ω (.v (cS (u ++ w))) ω2 :=
  de_op op_add_str A B fun Z HF H σ x y Q S r1 r2 q => by
    obtain ⟨e1, _, o1⟩ := RD.word r1
    obtain ⟨e2, _, o2⟩ := RD.word r2
    refine ⟨_, _, e1, e2, by rw [S_len, S_len]; exact h, ?_⟩
    rw [S_app]
    exact q _ HF H (Same.refl _) S (rdW (by rw [List.length_append]; exact h) (okW_app o1 o2))

/-! ### comparisons -/
theorem de_cmp {op : CmpOp} {r : R2} (ho : OpR X (compareOp op) r) (A : DE X a ρ ω d1 ω1) (B : DE X b ρ ω1 d2 ω2) (hm : behindInMarks op b = false)
    (h : ∀ Z HF H σ x y Q, SK Z HF H σ ρ ω2 → RD HF d1 x → RD HF d2 y → (∀ v HF' H', Same HF HF' → SK Z HF' H' σ ρ ω3 → RD HF' d3 v → Q v H') → r x y H Q) : DE X (.Compare a [op] [b] pos) ρ ω d3 ω3 :=
  pe_mono (pe_cmpR ho A B hm) (te2 h)
theorem dt_cmp {op : CmpOp} {r : R2} {k : Bool} (ho : OpR X (compareOp op) r) (A : DE X a ρ ω d1 ω1) (B : DE X b ρ ω1 d2 ω2) (hm : behindInMarks op b = false)
    (h : ∀ Z HF H σ x y Q, SK Z HF H σ ρ ω2 → RD HF d1 x → RD HF d2 y → (∀ HF' H', Same HF HF' → SK Z HF' H' σ ρ ω3 → Q (.bl k) H') → r x y H Q) : DT X (.Compare a [op] [b] pos) ρ ω k ω3 :=
  pt_mono (pt_cmpR ho A B hm) (tt2 h)
/-- a comparison by its op, its word at values: told once, for values and tests -/
structure CmpD (X : Cx) (op : CmpOp) (ρ : En) (ω : Sto) (d1 d2 : D) (k : Bool) : Prop where
  run : ∃ r : R2, OpR X (compareOp op) r ∧ ∀ Z HF H σ x y Q, SK Z HF H σ ρ ω → RD HF d1 x → RD HF d2 y → Q (.bl k) H → r x y H Q
theorem de_c {op : CmpOp} {k : Bool} (A : DE X a ρ ω d1 ω1) (B : DE X b ρ ω1 d2 ω2) (C : CmpD X op ρ ω2 d1 d2 k) (hm : behindInMarks op b = false := by first | exact nomark _ | rfl) : DE X (.Compare a [op] [b] pos) ρ ω (.v (cB k)) ω2 := by
  obtain ⟨r, ho, h⟩ := C.run
  exact de_cmp ho A B hm fun Z HF H σ x y Q S r1 r2 q => h Z HF H σ x y Q S r1 r2 (q _ HF H (Same.refl _) S rfl)
theorem dt_c {op : CmpOp} {k : Bool} (A : DE X a ρ ω d1 ω1) (B : DE X b ρ ω1 d2 ω2) (C : CmpD X op ρ ω2 d1 d2 k) (hm : behindInMarks op b = false := by first | exact nomark _ | rfl) : DT X (.Compare a [op] [b] pos) ρ ω k ω2 := by
  obtain ⟨r, ho, h⟩ := C.run
  exact dt_cmp ho A B hm fun Z HF H σ x y Q S r1 r2 q => h Z HF H σ x y Q S r1 r2 (q HF H (Same.refl _) S)
section
variable {i j : Int} {u w : Wd} {p q : PyData}
theorem c_lt : CmpD X .Lt ρ ω (.v (cI i)) (.v (cI j)) (decide (i < j)) := ⟨_, op_lt, fun Z HF H σ x y Q S r1 r2 q => ⟨i, j, r1, r2, q⟩⟩
theorem c_le : CmpD X .LtE ρ ω (.v (cI i)) (.v (cI j)) (decide (i ≤ j)) := ⟨_, op_le, fun Z HF H σ x y Q S r1 r2 q => ⟨i, j, r1, r2, q⟩⟩
theorem c_gt : CmpD X .Gt ρ ω (.v (cI i)) (.v (cI j)) (decide (j < i)) := ⟨_, op_gt, fun Z HF H σ x y Q S r1 r2 q => ⟨i, j, r1, r2, q⟩⟩
theorem c_ge : CmpD X .GtE ρ ω (.v (cI i)) (.v (cI j)) (decide (j ≤ i)) := ⟨_, op_ge, fun Z HF H σ x y Q S r1 r2 q => ⟨i, j, r1, r2, q⟩⟩
theorem c_eqI : CmpD X .Eq ρ ω (.v (cI i)) (.v (cI j)) (decide (i = j)) := ⟨_, op_eq, fun Z HF H σ x y Q S r1 r2 q => by
  cases (show x = .int i from r1)
  cases (show y = .int j from r2)
  refine ⟨rfl, ?_⟩
  have e : decide (V.int i = V.int j) = decide (i = j) := by rw [dec_int, Bool.beq_eq_decide_eq]
  rw [e]; exact q⟩
theorem c_neI : CmpD X .NotEq ρ ω (.v (cI i)) (.v (cI j)) (!decide (i = j)) := ⟨_, op_ne, fun Z HF H σ x y Q S r1 r2 q => by
  cases (show x = .int i from r1)
  cases (show y = .int j from r2)
  refine ⟨rfl, ?_⟩
  have e : decide (V.int i = V.int j) = decide (i = j) := by rw [dec_int, Bool.beq_eq_decide_eq]
  rw [e]; exact q⟩
theorem dec_S {u w : Wd} : decide (V.str (S u) = V.str (S w)) = decide (u = w) := by
  by_cases h : u = w
  · subst h; simp
  · have : ¬ V.str (S u) = V.str (S w) := fun e => h (S_inj (V.str.inj e))
    rw [decide_eq_false this, decide_eq_false h]
theorem c_eqS : CmpD X .Eq ρ ω (.v (cS u)) (.v (cS w)) (decide (u = w)) := ⟨_, op_eq, fun Z HF H σ x y Q S r1 r2 q => by
  obtain ⟨rfl, _, _⟩ := RD.word r1
  obtain ⟨rfl, _, _⟩ := RD.word r2
  exact ⟨rfl, by rw [dec_S]; exact q⟩⟩
theorem c_neS : CmpD X .NotEq ρ ω (.v (cS u)) (.v (cS w)) (!decide (u = w)) := ⟨_, op_ne, fun Z HF H σ x y Q S r1 r2 q => by
  obtain ⟨rfl, _, _⟩ := RD.word r1
  obtain ⟨rfl, _, _⟩ := RD.word r2
  exact ⟨rfl, by rw [dec_S]; exact q⟩⟩
/-- data of any form -/
theorem c_eqP (hu : X.A.units + 64 < cLine) (h1 : p.depth ≤ 64) (h2 : q.depth ≤ 64) : CmpD X .Eq ρ ω (.v p) (.v q) (PyData.eqv p q) := ⟨_, op_eqD hu, fun Z HF H σ x y Q S r1 r2 k => by
  have s1 := Rp.lay (RD.rp r1)
  have s2 := Rp.lay (RD.rp r2)
  exact ⟨p, q, ((RD.rp r1).mono S.fh).dp, ((RD.rp r2).mono S.fh).dp, by unfold SeqAt.shaped; rw [s1, decide_eq_true h1]; rfl, by unfold SeqAt.shaped; rw [s2, decide_eq_true h2]; rfl, k⟩⟩
theorem c_neP (hu : X.A.units + 64 < cLine) (h1 : p.depth ≤ 64) (h2 : q.depth ≤ 64) : CmpD X .NotEq ρ ω (.v p) (.v q) (!PyData.eqv p q) := ⟨_, op_neD hu, fun Z HF H σ x y Q S r1 r2 k => by
  have s1 := Rp.lay (RD.rp r1)
  have s2 := Rp.lay (RD.rp r2)
  exact ⟨p, q, ((RD.rp r1).mono S.fh).dp, ((RD.rp r2).mono S.fh).dp, by unfold SeqAt.shaped; rw [s1, decide_eq_true h1]; rfl, by unfold SeqAt.shaped; rw [s2, decide_eq_true h2]; rfl, k⟩⟩
def isN : PyData → Bool
  | .none => true
  | _ => false
theorem isN_of {H : Hp} {p : PyData} {x : V} (r : Rp H p x) : decide (x = .non) = isN p := by
  cases p with
  | none => cases (show x = .non from r); rfl
  | bool b => cases (show x = .bl b from r); rfl
  | int i => cases (show x = .int i from r); rfl
  | str y => obtain ⟨rfl, _⟩ := r; rfl
  | list ds => obtain ⟨a, vs, rfl, _⟩ := r; rfl
  | tuple ds => obtain ⟨a, vs, rfl, _⟩ := r; rfl
  | dict kvs => exact r.elim
theorem c_isN : CmpD X .Is ρ ω (.v p) (.v .none) (isN p) := ⟨_, op_isN, fun Z HF H σ x y Q S r1 r2 q => ⟨r2, by rw [isN_of (RD.rp r1)]; exact q⟩⟩
theorem c_notN : CmpD X .IsNot ρ ω (.v p) (.v .none) (!isN p) := ⟨_, op_notN, fun Z HF H σ x y Q S r1 r2 q => ⟨r2, by rw [isN_of (RD.rp r1)]; exact q⟩⟩
/-- one sign in a text -/
theorem c_inS {z : Nat} : CmpD X .In ρ ω (.v (cS [z])) (.v (cS w)) (decide (z ∈ w)) := ⟨_, op_in_sign, fun Z HF H σ x y Q S r1 r2 q => by
  obtain ⟨rfl, _, _⟩ := RD.word r1
  obtain ⟨rfl, _, _⟩ := RD.word r2
  exact ⟨z, _, rfl, rfl, by rw [S_list]; exact q⟩⟩
theorem c_ninS {z : Nat} : CmpD X .NotIn ρ ω (.v (cS [z])) (.v (cS w)) (!decide (z ∈ w)) := ⟨_, op_notIn_sign, fun Z HF H σ x y Q S r1 r2 q => by
  obtain ⟨rfl, _, _⟩ := RD.word r1
  obtain ⟨rfl, _, _⟩ := RD.word r2
  exact ⟨z, _, rfl, rfl, by rw [S_list]; exact q⟩⟩
end

/-! ### tests -/
theorem dt_val {k : Bool} (A : DE X e ρ ω (.v (cB k)) ω1) (he : ∀ whole, isTrue e X.env whole = (do let v ← whole; standAt e.pos; holding [v] (truthy v)) := by intro _; rfl) : DT X e ρ ω k ω1 :=
  pt_mono (pt_val A he) fun σ H Q ⟨Z, HF, S, q⟩ => ⟨Z, HF, S, fun v HF1 H1 e1 S1 r1 => ⟨k, r1, q HF1 H1 e1 S1⟩⟩
theorem dt_not {k : Bool} (A : DT X a ρ ω k ω1) : DT X (.UnaryOp .Not a pos) ρ ω (!k) ω1 :=
  pt_mono (pt_not A) fun σ H Q ⟨Z, HF, S, q⟩ => ⟨Z, HF, S, fun HF1 H1 e1 S1 => q HF1 H1 e1 S1⟩
theorem dt_bool {op : BoolOp} {vs : List Expr} {k : Bool} (A : DW X (.BoolOp op vs pos) ρ ω k ω1) : DT X (.BoolOp op vs pos) ρ ω k ω1 := A.pt
theorem dw_and1 {k : Bool} (A : DT X a ρ ω k ω1) : DW X (.BoolOp .And [a] pos) ρ ω k ω1 := pw_and1 A
theorem dw_or1 {k : Bool} (A : DT X a ρ ω k ω1) : DW X (.BoolOp .Or [a] pos) ρ ω k ω1 := pw_or1 A
theorem dw_and {rest : List Expr} {k m : Bool} {ω' : Sto} (A : DT X a ρ ω k ω1) (B : k = true → DW X (.BoolOp .And (b :: rest) pos) ρ ω1 m ω') (hω : k = false → ω1 = ω') : DW X (.BoolOp .And (a :: b :: rest) pos) ρ ω (k && m) ω' :=
  pw_mono (pw_and A (pw_case B)) fun σ H Q ⟨Z, HF, S, q⟩ => ⟨Z, HF, S, fun HF1 H1 e1 S1 => by
    cases k with
    | true => exact ⟨rfl, Z, HF1, S1, fun HF2 H2 e2 S2 => q HF2 H2 (e1.trans e2) S2⟩
    | false => exact q HF1 H1 e1 (hω rfl ▸ S1)⟩
theorem dw_or {rest : List Expr} {k m : Bool} {ω' : Sto} (A : DT X a ρ ω k ω1) (B : k = false → DW X (.BoolOp .Or (b :: rest) pos) ρ ω1 m ω') (hω : k = true → ω1 = ω') : DW X (.BoolOp .Or (a :: b :: rest) pos) ρ ω (k || m) ω' :=
  pw_mono (pw_or A (pw_case B)) fun σ H Q ⟨Z, HF, S, q⟩ => ⟨Z, HF, S, fun HF1 H1 e1 S1 => by
    cases k with
    | false => exact ⟨rfl, Z, HF1, S1, fun HF2 H2 e2 S2 => q HF2 H2 (e1.trans e2) S2⟩
    | true => exact q HF1 H1 e1 (hω rfl ▸ S1)⟩
/-- as values: True, False -/
theorem de_and1 {op : BoolOp} (A : DE X a ρ ω d ω1) : DE X (.BoolOp op [a] pos) ρ ω d ω1 := pe_one A
theorem de_and {rest : List Expr} {k m : Bool} (A : DE X a ρ ω (.v (cB k)) ω1) (B : k = true → DE X (.BoolOp .And (b :: rest) pos) ρ ω1 (.v (cB m)) ω1) : DE X (.BoolOp .And (a :: b :: rest) pos) ρ ω (.v (cB (k && m))) ω1 :=
  pe_mono (pe_and A (pe_case B)) fun σ H Q ⟨Z, HF, S, q⟩ => ⟨Z, HF, S, fun v HF1 H1 e1 S1 r1 => ⟨k, r1, by
    cases k with
    | true => exact ⟨rfl, Z, HF1, S1, fun v HF2 H2 e2 S2 r2 => q v HF2 H2 (e1.trans e2) S2 r2⟩
    | false => exact q _ HF1 H1 e1 S1 rfl⟩⟩
theorem de_or {rest : List Expr} {k m : Bool} (A : DE X a ρ ω (.v (cB k)) ω1) (B : k = false → DE X (.BoolOp .Or (b :: rest) pos) ρ ω1 (.v (cB m)) ω1) : DE X (.BoolOp .Or (a :: b :: rest) pos) ρ ω (.v (cB (k || m))) ω1 :=
  pe_mono (pe_or A (pe_case B)) fun σ H Q ⟨Z, HF, S, q⟩ => ⟨Z, HF, S, fun v HF1 H1 e1 S1 r1 => ⟨k, r1, by
    cases k with
    | false => exact ⟨rfl, Z, HF1, S1, fun v HF2 H2 e2 S2 r2 => q v HF2 H2 (e1.trans e2) S2 r2⟩
    | true => exact q _ HF1 H1 e1 S1 rfl⟩⟩
theorem de_not {k : Bool} (A : DE X a ρ ω (.v (cB k)) ω1) : DE X (.UnaryOp .Not a pos) ρ ω (.v (cB (!k))) ω1 :=
  pe_mono (pe_not A) fun σ H Q ⟨Z, HF, S, q⟩ => ⟨Z, HF, S, fun v HF1 H1 e1 S1 r1 => ⟨k, r1, q _ HF1 H1 e1 S1 rfl⟩⟩
/-- by truth -/
def tru : PyData → Bool
  | .none => false
  | .bool b => b
  | .int i => i != 0
  | .str x => x.length != 0
  | .list ds => !ds.isEmpty
  | .tuple ds => !ds.isEmpty
  | .dict _ => false
theorem rps_empty {H : Hp} {ds : List PyData} {vs : List V} (r : Rps H ds vs) : (!vs.isEmpty) = !ds.isEmpty := by
  cases ds with
  | nil => cases r; rfl
  | cons d ds => obtain ⟨v, t, rfl, _⟩ := r; rfl
theorem tru_of {K : PySem.W.Frag} {H : Hp} {p : PyData} {x : V} (r : Rp H p x) : TruV K x H (tru p) := by
  cases p with
  | none => cases (show x = .non from r); rfl
  | bool b => cases (show x = .bl b from r); rfl
  | int i => cases (show x = .int i from r); rfl
  | str y =>
    obtain ⟨rfl, h, _⟩ := r
    refine ⟨h, ?_⟩
    show (y.length != 0) = ((y.length : Int) != 0)
    by_cases hy : y.length = 0
    · rw [hy]; rfl
    · have h1 : (y.length != 0) = true := by simpa using hy
      have h2 : ((y.length : Int) != 0) = true := by simpa using hy
      rw [h1, h2]
  | list ds => obtain ⟨a, vs, rfl, h1, _, h2⟩ := r; exact .inl ⟨vs, SqL.of h1, (rps_empty h2).symm⟩
  | tuple ds => obtain ⟨a, vs, rfl, h1, _, h2⟩ := r; exact .inr (.inl ⟨vs, SqT.of h1, (rps_empty h2).symm⟩)
  | dict kvs => exact r.elim
theorem dt_tru {p : PyData} (A : DE X a ρ ω (.v p) ω1) (he : ∀ whole, isTrue a X.env whole = (do let v ← whole; standAt a.pos; holding [v] (truthy v)) := by intro _; rfl) : DT X a ρ ω (tru p) ω1 :=
  pt_mono (pt_truth A he) fun σ H Q ⟨Z, HF, S, q⟩ => ⟨Z, HF, S, fun v HF1 H1 e1 S1 r1 => ⟨_, tru_of ((RD.rp r1).mono S1.fh), q HF1 H1 e1 S1⟩⟩
/-- an owned list by truth -/
theorem dt_truC (j : Nat) {p : Addr} {ds : List PyData} (A : DE X a ρ ω (.adr p) ω1) (hj : ω1[j]? = some (p, .lst ds) := by rfl) (he : ∀ whole, isTrue a X.env whole = (do let v ← whole; standAt a.pos; holding [v] (truthy v)) := by intro _; rfl) : DT X a ρ ω (!ds.isEmpty) ω1 :=
  pt_mono (pt_truth A he) fun σ H Q ⟨Z, HF, S, q⟩ => ⟨Z, HF, S, fun v HF1 H1 e1 S1 r1 => by
    cases (show v = .ref p from r1)
    obtain ⟨fp, rfl, vs, h1, _, h2⟩ := S1.cell hj
    exact ⟨_, .inl ⟨vs, SqL.of h1, (rps_empty h2).symm⟩, q HF1 H1 e1 S1⟩⟩
/-- a if t else b -/
theorem de_if {k : Bool} (T : DT X c ρ ω k ω1) (A : k = true → DE X a ρ ω1 d ω2) (B : k = false → DE X b ρ ω1 d ω2) : DE X (.IfExp c a b pos) ρ ω d ω2 :=
  pe_mono (pe_ifExp T (pe_case A) (pe_case B)) fun σ H Q ⟨Z, HF, S, q⟩ => ⟨Z, HF, S, fun HF1 H1 e1 S1 => by
    cases k with
    | true => exact ⟨rfl, Z, HF1, S1, fun v HF2 H2 e2 S2 r2 => q v HF2 H2 (e1.trans e2) S2 r2⟩
    | false => exact ⟨rfl, Z, HF1, S1, fun v HF2 H2 e2 S2 r2 => q v HF2 H2 (e1.trans e2) S2 r2⟩⟩

/-! ### arguments, displays -/
theorem da_nil : DA X [] ρ ω [] ω := pa_mono pa_nil fun σ H Q ⟨Z, HF, S, q⟩ => q [] HF H (Same.refl _) S rfl
theorem da_cons {ds : List D} (A : DE X e ρ ω d ω1) (B : DA X es ρ ω1 ds ω2) (hs : starEach (e :: es) X.env = (false, eval e X.env) :: starEach es X.env := by rfl) : DA X (e :: es) ρ ω (d :: ds) ω2 :=
  pa_mono (pa_cons A B hs) fun σ H Q ⟨Z, HF, S, q⟩ => ⟨Z, HF, S, fun v HF1 H1 e1 S1 r1 => ⟨Z, HF1, S1, fun vs HF2 H2 e2 S2 r2 => q (v :: vs) HF2 H2 (e1.trans e2) S2 ⟨v, vs, rfl, r1.mono e2, r2⟩⟩⟩
theorem da_one (A : DE X e ρ ω d ω1) (hs : starEach [e] X.env = (false, eval e X.env) :: starEach [] X.env := by rfl) : DA X [e] ρ ω [d] ω1 := da_cons A da_nil hs
theorem de_tup {ps : List PyData} {x1 : Nat} (A : DA X es ρ ω (ps.map D.v) ω1) (hz : (decide (ps.length ≤ 1000)) = true := by rfl) : DE X (.Tuple es x1 pos) ρ ω (.v (.tuple ps)) ω1 :=
  pe_mono (pe_tup A) fun σ H Q ⟨Z, HF, S, q⟩ => ⟨Z, HF, S, fun vs HF1 H1 e1 S1 r1 => by
    have r := RDs.rps r1
    have hl : vs.length ≤ sizeLine := by rw [r.length]; exact Nat.le_trans (of_decide_eq_true hz) (by decide)
    refine ⟨hl, fun p hp => ?_⟩
    obtain ⟨S2, e2⟩ := S1.newF (.tup vs) hp
    exact q _ _ _ (e1.trans e2) S2 ⟨p, vs, rfl, upd_same, hl, r.mono e2⟩⟩
theorem cell_lst {HF H : Hp} {p : Addr} {vs : List V} {ps : List PyData} (hz : vs.length ≤ sizeLine) (r : Rps HF ps vs) : CellR HF (upd H p (.lst vs)) p [p] (.lst ps) := ⟨rfl, vs, upd_same, hz, r⟩
theorem dn_lst {ps : List PyData} (A : DA X es ρ ω (ps.map D.v) ω1) (hz : (decide (ps.length ≤ 1000)) = true := by rfl) : DN X (.List es pos) ρ ω (.lst ps) ω1 :=
  pe_mono (pe_lst A) fun σ H Q ⟨Z, HF, S, q⟩ => ⟨Z, HF, S, fun vs HF1 H1 e1 S1 r1 => by
    have r := RDs.rps r1
    have hl : vs.length ≤ sizeLine := by rw [r.length]; exact Nat.le_trans (of_decide_eq_true hz) (by decide)
    exact ⟨hl, fun p hp => q _ _ _ e1 (S1.newC hp (cell_lst hl r))⟩⟩
end
/-- a new list, told as data: nobody will change it -/
theorem SK.freezeL {Z : Zone} {HF H : Hp} {σ : L2.St} {ρ : En} {ω : Sto} {p : Addr} {ps : List PyData} (S : SK Z HF H σ ρ (ω ++ [(p, .lst ps)])) :
    ∃ HF', Same HF HF' ∧ SK Z HF' H σ ρ ω ∧ Rp HF' (.list ps) (.ref p) := by
  obtain ⟨f, h1, h2⟩ := S.cs
  obtain ⟨⟨e, vs, hp, hz, r⟩, nd, out⟩ := h1 ω.length p (.lst ps) (by rw [List.getElem?_append_right (Nat.le_refl _), Nat.sub_self]; rfl)
  have op := out p (by rw [e]; exact List.mem_singleton.mpr rfl)
  have e1 : Same HF (upd HF p (.lst vs)) := same_new op.1
  refine ⟨upd HF p (.lst vs), e1, ⟨S.gh, fun b o q => ?_, S.f0.trans e1, fun b o q => ?_, S.ln, fun i d q => ?_, f, fun j a c q => ?_, fun i j hij hj => h2 i j hij (by rw [List.length_append]; exact Nat.lt_succ_of_lt hj)⟩, p, vs, rfl, upd_same, hz, r.mono e1⟩
  · by_cases hb : b = p
    · subst hb; rw [upd_same] at q; cases q; exact hp
    · rw [upd_ne hb] at q; exact S.fh b o q
  · by_cases hb : b = p
    · subst hb; exact .inr (.inl op.2)
    · rw [upd_ne hb] at q; exact S.nw b o q
  · obtain ⟨v, q1, q2⟩ := S.sl i d q
    exact ⟨v, q1, q2.mono e1⟩
  · have hl := (List.getElem?_eq_some_iff.mp q).1
    obtain ⟨r1, r2, r3⟩ := h1 j a c (by rw [List.getElem?_append_left hl]; exact q)
    have ne : ∀ b ∈ f j, b ≠ p := fun b hb eb => h2 j ω.length hl (by rw [List.length_append]; exact Nat.lt_succ_self _) b hb (by rw [e, eb]; exact List.mem_singleton.mpr rfl)
    exact ⟨r1.mono e1 fun _ _ => rfl, r2, fun b hb => ⟨by rw [upd_ne (ne b hb)]; exact (r3 b hb).1, (r3 b hb).2⟩⟩
section
variable {X : Cx} {ρ : En} {ω ω1 ω2 ω3 ω4 : Sto} {d d1 d2 d3 : D} {e a b c : Expr} {es : List Expr} {pos : Pos}
theorem de_froz {ps : List PyData} (A : DN X e ρ ω (.lst ps) ω1) : DE X e ρ ω (.v (.list ps)) ω1 :=
  pe_mono A fun σ H Q ⟨Z, HF, S, q⟩ => ⟨Z, HF, S, fun p HF1 H1 e1 S1 => by
    obtain ⟨HF2, e2, S2, r2⟩ := S1.freezeL
    exact q _ HF2 H1 (e1.trans e2) S2 r2⟩
theorem de_lst {ps : List PyData} (A : DA X es ρ ω (ps.map D.v) ω1) (hz : (decide (ps.length ≤ 1000)) = true := by rfl) : DE X (.List es pos) ρ ω (.v (.list ps)) ω1 := de_froz (dn_lst A hz)

/-! ### what a list is: data, or an owned cell -/
/-- d is a list of ps to be read -/
inductive IsL (ω : Sto) : D → List PyData → Prop
  | v (ps : List PyData) : IsL ω (.v (.list ps)) ps
  | c {p : Addr} {ps : List PyData} (j : Nat) (h : ω[j]? = some (p, .lst ps)) : IsL ω (.adr p) ps
theorem IsL.at {Z : Zone} {HF H : Hp} {σ : L2.St} {d : D} {ps : List PyData} (h : IsL ω d ps) (S : SK Z HF H σ ρ ω) {x : V} (r : RD HF d x) : ∃ p vs, x = .ref p ∧ H p = some (.lst vs) ∧ vs.length ≤ sizeLine ∧ Rps HF ps vs := by
  cases h with
  | v ps => obtain ⟨p, vs, rfl, h1, h2, h3⟩ := r; exact ⟨p, vs, rfl, S.fh _ _ h1, h2, h3⟩
  | c j hj =>
    rename_i p
    obtain ⟨fp, rfl, vs, h1, h2, h3⟩ := S.cell hj
    exact ⟨p, vs, r, h1, h2, h3⟩
theorem lv {ps : List PyData} : IsL ω (.v (.list ps)) ps := .v ps
theorem lc (j : Nat) {p : Addr} {ps : List PyData} (h : ω[j]? = some (p, .lst ps) := by rfl) : IsL ω (.adr p) ps := .c j h

/-! ### subscripts -/
theorem atI_rps {H : Hp} {ps : List PyData} {vs : List V} (r : Rps H ps vs) {i : Int} {p : PyData} (h : atI ps i = some p) : ∃ v, atI vs i = some v ∧ Rp H p v := by
  unfold atI at *
  rw [r.length]
  cases hk : ixN ps.length i with
  | none => rw [hk] at h; cases h
  | some k =>
    rw [hk] at h
    obtain ⟨v, h1, h2⟩ := r.get h
    exact ⟨v, h1, h2⟩
theorem de_ixL {i : Int} {ps : List PyData} {p : PyData} (A : DE X a ρ ω d1 ω1) (B : DE X b ρ ω1 (.v (cI i)) ω2) (L : IsL ω2 d1 ps) (h : atI ps i = some p) (hs : PlainIx b := by exact fun _ _ => rfl) : DE X (.Subscript a b pos) ρ ω (.v p) ω2 :=
  pe_mono (pe_ix ix_list A B hs) (te2 fun Z HF H σ x y Q S r1 r2 q => by
    obtain ⟨l, vs, rfl, h1, h2, h3⟩ := L.at S r1
    obtain ⟨v, h4, h5⟩ := atI_rps h3 h
    exact ⟨l, vs, i, v, rfl, r2, SqL.of h1, h4, q v HF H (Same.refl _) S h5⟩)
theorem de_ixT {i : Int} {ps : List PyData} {p : PyData} (A : DE X a ρ ω (.v (.tuple ps)) ω1) (B : DE X b ρ ω1 (.v (cI i)) ω2) (h : atI ps i = some p) (hs : PlainIx b := by exact fun _ _ => rfl) : DE X (.Subscript a b pos) ρ ω (.v p) ω2 :=
  pe_mono (pe_ix ix_tup A B hs) (te2 fun Z HF H σ x y Q S r1 r2 q => by
    obtain ⟨l, vs, rfl, h1, h2, h3⟩ := r1
    obtain ⟨v, h4, h5⟩ := atI_rps h3 h
    exact ⟨l, vs, i, v, rfl, r2, SqT.of (S.fh _ _ h1), h4, q v HF H (Same.refl _) S h5⟩)
theorem atI_mem {α : Type} {xs : List α} {i : Int} {x : α} (h : atI xs i = some x) : x ∈ xs := by
  unfold atI at h
  cases hk : ixN xs.length i with
  | none => rw [hk] at h; cases h
  | some k => rw [hk] at h; exact List.mem_of_getElem? h
theorem okW_mem {w : Wd} {z : Nat} (h : okW w = true) (hz : z ∈ w) : okW [z] = true := by
  unfold okW at *
  rw [List.all_eq_true] at h
  simpa using h z hz
theorem de_ixS {i : Int} {w : Wd} {z : Nat} (A : DE X a ρ ω (.v (cS w)) ω1) (B : DE X b ρ ω1 (.v (cI i)) ω2) (h : atI w i = some z) (hs : PlainIx b := by exact fun _ _ => rfl) : DE X (.Subscript a b pos) ρ ω (.v (cS [z])) ω2 :=
  pe_mono (pe_ix ix_str A B hs) (te2 fun Z HF H σ x y Q S r1 r2 q => by
    obtain ⟨rfl, h1, h2⟩ := RD.word r1
    exact ⟨_, i, z, rfl, r2, by rw [S_len]; exact h1, by rw [S_list]; exact h, q _ HF H (Same.refl _) S (rdW (w := [z]) (by show 1 ≤ sizeLine; decide) (okW_mem h2 (atI_mem h)))⟩)
/-! slices -/
theorem do_none : DO X none ρ ω none ω := po_mono po_none fun σ H Q ⟨Z, HF, S, q⟩ => q HF H (Same.refl _) S
theorem do_some {i : Int} (A : DE X e ρ ω (.v (cI i)) ω1) : DO X (some e) ρ ω (some i) ω1 := po_mono (po_some A) fun σ H Q ⟨Z, HF, S, q⟩ => ⟨Z, HF, S, fun v HF1 H1 e1 S1 r1 => ⟨i, r1, q HF1 H1 e1 S1⟩⟩
def cut {α : Type} (xs : List α) (lo hi : Option Int) : List α := (xs.drop (HT.sIx xs.length 0 lo)).take (HT.sIx xs.length xs.length hi - HT.sIx xs.length 0 lo)
theorem cut_len {α : Type} (xs : List α) (lo hi : Option Int) : (cut xs lo hi).length ≤ xs.length := by
  unfold cut; rw [List.length_take, List.length_drop]; omega
theorem cut_map {α β : Type} (f : α → β) (xs : List α) (lo hi : Option Int) : cut (xs.map f) lo hi = (cut xs lo hi).map f := by
  unfold cut; rw [List.length_map, List.map_take, List.map_drop]
theorem rps_cut {H : Hp} {ps : List PyData} {vs : List V} (r : Rps H ps vs) (lo hi : Option Int) : Rps H (cut ps lo hi) (cutV vs lo hi) := by
  unfold cut cutV
  rw [r.length]
  exact (r.drop _).take _
theorem te3 {lo hi : Option Int} {R : V → Option Int → Option Int → Hp → VK → Prop} (h : ∀ Z HF H σ x Q, SK Z HF H σ ρ ω3 → RD HF d1 x → (∀ v HF' H', Same HF HF' → SK Z HF' H' σ ρ ω4 → RD HF' d3 v → Q v H') → R x lo hi H Q) :
    ∀ σ H Q, teD ρ ω d3 ω4 σ H Q → tSl R (teD ρ ω d1 ω1) (toD ρ ω1 lo ω2) (toD ρ ω2 hi ω3) σ H Q := by
  rintro σ H Q ⟨Z, HF, S, q⟩
  exact ⟨Z, HF, S, fun x HF1 H1 e1 S1 r1 => ⟨Z, HF1, S1, fun HF2 H2 e2 S2 => ⟨Z, HF2, S2, fun HF3 H3 e3 S3 => h Z HF3 H3 σ x Q S3 ((r1.mono e2).mono e3) fun v HF4 H4 e4 S4 r4 => q v HF4 H4 (((e1.trans e2).trans e3).trans e4) S4 r4⟩⟩⟩
theorem te3n {lo hi : Option Int} {cc : Cell} {R : V → Option Int → Option Int → Hp → VK → Prop} (h : ∀ Z HF H σ x Q, SK Z HF H σ ρ ω3 → RD HF d1 x → (∀ v HF' H', Same HF HF' → SK Z HF' H' σ ρ (ω4 ++ [(v, cc)]) → Q (.ref v) H') → R x lo hi H Q) :
    ∀ σ H Q, teN ρ ω cc ω4 σ H Q → tSl R (teD ρ ω d1 ω1) (toD ρ ω1 lo ω2) (toD ρ ω2 hi ω3) σ H Q := by
  rintro σ H Q ⟨Z, HF, S, q⟩
  exact ⟨Z, HF, S, fun x HF1 H1 e1 S1 r1 => ⟨Z, HF1, S1, fun HF2 H2 e2 S2 => ⟨Z, HF2, S2, fun HF3 H3 e3 S3 => h Z HF3 H3 σ x Q S3 ((r1.mono e2).mono e3) fun v HF4 H4 e4 S4 => q v HF4 H4 (((e1.trans e2).trans e3).trans e4) S4⟩⟩⟩
theorem dn_sliceL {lo hi : Option Int} {lo' hi' : Option Expr} {p2 : Pos} {ps : List PyData} (A : DE X a ρ ω d1 ω1) (B : DO X lo' ρ ω1 lo ω2) (C : DO X hi' ρ ω2 hi ω3) (L : IsL ω3 d1 ps) : DN X (.Subscript a (.Slice lo' hi' none p2) pos) ρ ω (.lst (cut ps lo hi)) ω3 :=
  pe_mono (pe_slice sl_list A B C) (te3n fun Z HF H σ x Q S r1 q => by
    obtain ⟨l, vs, rfl, h1, h2, h3⟩ := L.at S r1
    exact ⟨l, vs, rfl, SqL.of h1, fun p hp => q p HF _ (Same.refl _) (S.newC hp (cell_lst (Nat.le_trans (cutV_length _ _ _) h2) (rps_cut h3 lo hi)))⟩)
theorem de_sliceT {lo hi : Option Int} {lo' hi' : Option Expr} {p2 : Pos} {ps : List PyData} (A : DE X a ρ ω (.v (.tuple ps)) ω1) (B : DO X lo' ρ ω1 lo ω2) (C : DO X hi' ρ ω2 hi ω3)
    (hw : (decide (HT.sIx ps.length 0 lo = 0) && decide (HT.sIx ps.length ps.length hi = ps.length)) = false) : DE X (.Subscript a (.Slice lo' hi' none p2) pos) ρ ω (.v (.tuple (cut ps lo hi))) ω3 :=
  pe_mono (pe_slice sl_tup A B C) (te3 fun Z HF H σ x Q S r1 q => by
    obtain ⟨l, vs, rfl, h1, h2, h3⟩ := r1
    refine ⟨l, vs, rfl, SqT.of (S.fh _ _ h1), fun hc => ?_, fun p hp => ?_⟩
    · rw [h3.length] at hc
      rw [decide_eq_true hc.1, decide_eq_true hc.2] at hw
      cases hw
    · obtain ⟨S2, e2⟩ := S.newF (.tup (cutV vs lo hi)) hp
      exact q _ _ _ e2 S2 ⟨p, _, rfl, upd_same, Nat.le_trans (cutV_length _ _ _) h2, (rps_cut h3 lo hi).mono e2⟩)
theorem okW_sub {u w : Wd} (h : okW w = true) (hs : ∀ z ∈ u, z ∈ w) : okW u = true := by
  unfold okW at *
  rw [List.all_eq_true] at *
  exact fun z hz => h z (hs z hz)
theorem de_sliceS {lo hi : Option Int} {lo' hi' : Option Expr} {p2 : Pos} {w : Wd} (A : DE X a ρ ω (.v (cS w)) ω1) (B : DO X lo' ρ ω1 lo ω2) (C : DO X hi' ρ ω2 hi ω3) : DE X (.Subscript a (.Slice lo' hi' none p2) pos) ρ ω (.v (cS (cut w lo hi))) ω3 :=
  pe_mono (pe_slice sl_str A B C) (te3 fun Z HF H σ x Q S' r1 q => by
    obtain ⟨rfl, h1, h2⟩ := RD.word r1
    refine ⟨_, rfl, by rw [S_len]; exact h1, ?_⟩
    have e : cutS (S w) lo hi = S (cut w lo hi) := by
      unfold cutS cut
      rw [S_list, S_len]
      rfl
    rw [e]
    exact q _ HF H (Same.refl _) S' (rdW (Nat.le_trans (cut_len _ _ _) h1) (okW_sub h2 fun z hz => List.mem_of_mem_drop (List.mem_of_mem_take hz))))

/-! ### built-ins by their names -/
structure Sg (X : Cx) (e : Expr) (es : List Expr) (pos : Pos) : Prop where
  he : starEach (e :: es) X.env = (false, eval e X.env) :: starEach es X.env
  hpl : (backTo pos (starEach es X.env)).any (·.1) = false
theorem de_callB {x : Str} {id : String} {p : Pos} {r : List V → Hp → VK → Prop} {ds : List D} (hc : CallR X (.builtin id) r) (hs : Sg X e es pos) (hg : Gl X x) (hm : X.mg x = none) (hv : bootBuiltins x = some (.builtin id)) (A : DA X (e :: es) ρ ω ds ω1)
    (h : ∀ Z HF H σ vs Q, SK Z HF H σ ρ ω1 → RDs HF ds vs → (∀ v HF' H', Same HF HF' → SK Z HF' H' σ ρ ω2 → RD HF' d v → Q v H') → r vs H Q) (hn : x ≠ "__name__" := by decide) (hdb : (x == ("__debug__" : Str)) = false := by decide) : DE X (.Call (.Name x p) (e :: es) [] pos) ρ ω d ω2 :=
  pe_mono (pe_callB hc hg hm hv A hn hdb hs.1 hs.2) fun σ H Q ⟨Z, HF, S, q⟩ => ⟨Z, HF, S, fun vs HF1 H1 e1 S1 r1 => h Z HF1 H1 σ vs Q S1 r1 fun v HF2 H2 e2 S2 r2 => q v HF2 H2 (e1.trans e2) S2 r2⟩
theorem de_callT {x : Str} {id : String} {p : Pos} {r : List V → Hp → VK → Prop} {ds : List D} (hc : CallR X (.type id) r) (hs : Sg X e es pos) (hg : Gl X x) (hm : X.mg x = none) (hv : bootBuiltins x = some (.type id)) (A : DA X (e :: es) ρ ω ds ω1)
    (h : ∀ Z HF H σ vs Q, SK Z HF H σ ρ ω1 → RDs HF ds vs → (∀ v HF' H', Same HF HF' → SK Z HF' H' σ ρ ω2 → RD HF' d v → Q v H') → r vs H Q) (hn : x ≠ "__name__" := by decide) (hdb : (x == ("__debug__" : Str)) = false := by decide) : DE X (.Call (.Name x p) (e :: es) [] pos) ρ ω d ω2 :=
  pe_mono (pe_callTy hc hg hm hv A hn hdb hs.1 hs.2) fun σ H Q ⟨Z, HF, S, q⟩ => ⟨Z, HF, S, fun vs HF1 H1 e1 S1 r1 => h Z HF1 H1 σ vs Q S1 r1 fun v HF2 H2 e2 S2 r2 => q v HF2 H2 (e1.trans e2) S2 r2⟩
theorem dn_callT {x : Str} {id : String} {p : Pos} {r : List V → Hp → VK → Prop} {ds : List D} {cc : Cell} (hc : CallR X (.type id) r) (hs : Sg X e es pos) (hg : Gl X x) (hm : X.mg x = none) (hv : bootBuiltins x = some (.type id)) (A : DA X (e :: es) ρ ω ds ω1)
    (h : ∀ Z HF H σ vs Q, SK Z HF H σ ρ ω1 → RDs HF ds vs → (∀ v HF' H', Same HF HF' → SK Z HF' H' σ ρ (ω2 ++ [(v, cc)]) → Q (.ref v) H') → r vs H Q) (hn : x ≠ "__name__" := by decide) (hdb : (x == ("__debug__" : Str)) = false := by decide) : DN X (.Call (.Name x p) (e :: es) [] pos) ρ ω cc ω2 :=
  pe_mono (pe_callTy hc hg hm hv A hn hdb hs.1 hs.2) fun σ H Q ⟨Z, HF, S, q⟩ => ⟨Z, HF, S, fun vs HF1 H1 e1 S1 r1 => h Z HF1 H1 σ vs Q S1 r1 fun v HF2 H2 e2 S2 => q v HF2 H2 (e1.trans e2) S2⟩
theorem dn_callB {x : Str} {id : String} {p : Pos} {r : List V → Hp → VK → Prop} {ds : List D} {cc : Cell} (hc : CallR X (.builtin id) r) (hs : Sg X e es pos) (hg : Gl X x) (hm : X.mg x = none) (hv : bootBuiltins x = some (.builtin id)) (A : DA X (e :: es) ρ ω ds ω1)
    (h : ∀ Z HF H σ vs Q, SK Z HF H σ ρ ω1 → RDs HF ds vs → (∀ v HF' H', Same HF HF' → SK Z HF' H' σ ρ (ω2 ++ [(v, cc)]) → Q (.ref v) H') → r vs H Q) (hn : x ≠ "__name__" := by decide) (hdb : (x == ("__debug__" : Str)) = false := by decide) : DN X (.Call (.Name x p) (e :: es) [] pos) ρ ω cc ω2 :=
  pe_mono (pe_callB hc hg hm hv A hn hdb hs.1 hs.2) fun σ H Q ⟨Z, HF, S, q⟩ => ⟨Z, HF, S, fun vs HF1 H1 e1 S1 r1 => h Z HF1 H1 σ vs Q S1 r1 fun v HF2 H2 e2 S2 => q v HF2 H2 (e1.trans e2) S2⟩
section
variable {p : Pos}
theorem de_lenL {ps : List PyData} (hm : X.mg "len" = none) (A : DE X a ρ ω d1 ω1) (L : IsL ω1 d1 ps) (hg : Gl X "len" := by rfl) (hs : Sg X a [] pos := by exact ⟨rfl, rfl⟩) : DE X (.Call (.Name "len" p) [a] [] pos) ρ ω (.v (cI ps.length)) ω1 :=
  de_callB call_len_seq hs hg hm (by decide +kernel) (da_one A hs.he) fun Z HF H σ vs Q S r q => by
    obtain ⟨x, _, rfl, r1, rfl⟩ := r
    obtain ⟨l, us, rfl, h1, h2, h3⟩ := L.at S r1
    exact ⟨l, us, rfl, .inl (SqL.of h1), q _ HF H (Same.refl _) S (by rw [h3.length]; rfl)⟩
theorem de_lenT {ps : List PyData} (hm : X.mg "len" = none) (A : DE X a ρ ω (.v (.tuple ps)) ω1) (hg : Gl X "len" := by rfl) (hs : Sg X a [] pos := by exact ⟨rfl, rfl⟩) : DE X (.Call (.Name "len" p) [a] [] pos) ρ ω (.v (cI ps.length)) ω1 :=
  de_callB call_len_seq hs hg hm (by decide +kernel) (da_one A hs.he) fun Z HF H σ vs Q S r q => by
    obtain ⟨x, _, rfl, r1, rfl⟩ := r
    obtain ⟨l, us, rfl, h1, h2, h3⟩ := r1
    exact ⟨l, us, rfl, .inr (SqT.of (S.fh _ _ h1)), q _ HF H (Same.refl _) S (by rw [h3.length]; rfl)⟩
theorem de_lenS {w : Wd} (hm : X.mg "len" = none) (A : DE X a ρ ω (.v (cS w)) ω1) (hg : Gl X "len" := by rfl) (hs : Sg X a [] pos := by exact ⟨rfl, rfl⟩) : DE X (.Call (.Name "len" p) [a] [] pos) ρ ω (.v (cI w.length)) ω1 :=
  de_callB call_len hs hg hm (by decide +kernel) (da_one A hs.he) fun Z HF H σ vs Q S' r q => by
    obtain ⟨x, _, rfl, r1, rfl⟩ := r
    obtain ⟨rfl, h1, h2⟩ := RD.word r1
    exact ⟨_, w.length, rfl, ⟨by rw [S_len]; exact h1, by rw [S_len]⟩, q _ HF H (Same.refl _) S' rfl⟩
theorem de_intI {i : Int} (hm : X.mg "int" = none) (A : DE X a ρ ω (.v (cI i)) ω1) (hg : Gl X "int" := by rfl) (hs : Sg X a [] pos := by exact ⟨rfl, rfl⟩) : DE X (.Call (.Name "int" p) [a] [] pos) ρ ω (.v (cI i)) ω1 :=
  de_callT call_int1 hs hg hm (by decide +kernel) (da_one A hs.he) fun Z HF H σ vs Q S r q => by
    obtain ⟨x, _, rfl, r1, rfl⟩ := r
    exact .inl ⟨i, by rw [show x = .int i from r1], q _ HF H (Same.refl _) S rfl⟩
theorem de_intB {k : Bool} (hm : X.mg "int" = none) (A : DE X a ρ ω (.v (cB k)) ω1) (hg : Gl X "int" := by rfl) (hs : Sg X a [] pos := by exact ⟨rfl, rfl⟩) : DE X (.Call (.Name "int" p) [a] [] pos) ρ ω (.v (cI (if k then 1 else 0))) ω1 :=
  de_callT call_int1 hs hg hm (by decide +kernel) (da_one A hs.he) fun Z HF H σ vs Q S r q => by
    obtain ⟨x, _, rfl, r1, rfl⟩ := r
    exact .inr ⟨k, by rw [show x = .bl k from r1], q _ HF H (Same.refl _) S rfl⟩
theorem de_max2 {i j : Int} (hc : X.calm = true) (hm : X.mg "max" = none) (A : DE X a ρ ω (.v (cI i)) ω1) (B : DE X b ρ ω1 (.v (cI j)) ω2) (hg : Gl X "max" := by rfl)
    (hs : Sg X a [b] pos := by exact ⟨rfl, rfl⟩) (hs2 : starEach [b] X.env = (false, eval b X.env) :: starEach [] X.env := by rfl) : DE X (.Call (.Name "max" p) [a, b] [] pos) ρ ω (.v (cI (if j > i then j else i))) ω2 :=
  de_callB (call_max2 hc) hs hg hm (by decide +kernel) (da_cons A (da_one B hs2) hs.he) fun Z HF H σ vs Q S r q => by
    obtain ⟨x, _, rfl, r1, y, _, rfl, r2, rfl⟩ := r
    exact ⟨i, j, by rw [show x = .int i from r1, show y = .int j from r2], q _ HF H (Same.refl _) S rfl⟩
theorem de_min2 {i j : Int} (hc : X.calm = true) (hm : X.mg "min" = none) (A : DE X a ρ ω (.v (cI i)) ω1) (B : DE X b ρ ω1 (.v (cI j)) ω2) (hg : Gl X "min" := by rfl)
    (hs : Sg X a [b] pos := by exact ⟨rfl, rfl⟩) (hs2 : starEach [b] X.env = (false, eval b X.env) :: starEach [] X.env := by rfl) : DE X (.Call (.Name "min" p) [a, b] [] pos) ρ ω (.v (cI (if j < i then j else i))) ω2 :=
  de_callB (call_min2 hc) hs hg hm (by decide +kernel) (da_cons A (da_one B hs2) hs.he) fun Z HF H σ vs Q S r q => by
    obtain ⟨x, _, rfl, r1, y, _, rfl, r2, rfl⟩ := r
    exact ⟨i, j, by rw [show x = .int i from r1, show y = .int j from r2], q _ HF H (Same.refl _) S rfl⟩
theorem de_tupleL {ps : List PyData} (hm : X.mg "tuple" = none) (A : DE X a ρ ω d1 ω1) (L : IsL ω1 d1 ps) (hg : Gl X "tuple" := by rfl) (hs : Sg X a [] pos := by exact ⟨rfl, rfl⟩) : DE X (.Call (.Name "tuple" p) [a] [] pos) ρ ω (.v (.tuple ps)) ω1 :=
  de_callT call_tuple_of hs hg hm (by decide +kernel) (da_one A hs.he) fun Z HF H σ vs Q S r q => by
    obtain ⟨x, _, rfl, r1, rfl⟩ := r
    obtain ⟨l, us, rfl, h1, h2, h3⟩ := L.at S r1
    refine ⟨l, us, rfl, .inl ⟨SqL.of h1, fun p hp => ?_⟩⟩
    obtain ⟨S2, e2⟩ := S.newF (.tup us) hp
    exact q _ _ _ e2 S2 ⟨p, us, rfl, upd_same, h2, h3.mono e2⟩
theorem dn_listL {ps : List PyData} (hm : X.mg "list" = none) (A : DE X a ρ ω d1 ω1) (L : IsL ω1 d1 ps) (hg : Gl X "list" := by rfl) (hs : Sg X a [] pos := by exact ⟨rfl, rfl⟩) : DN X (.Call (.Name "list" p) [a] [] pos) ρ ω (.lst ps) ω1 :=
  dn_callT call_list_of hs hg hm (by decide +kernel) (da_one A hs.he) fun Z HF H σ vs Q S r q => by
    obtain ⟨x, _, rfl, r1, rfl⟩ := r
    obtain ⟨l, us, rfl, h1, h2, h3⟩ := L.at S r1
    exact ⟨l, us, rfl, .inl (SqL.of h1), fun p hp => q p HF _ (Same.refl _) (S.newC hp (cell_lst h2 h3))⟩
theorem dn_listT {ps : List PyData} (hm : X.mg "list" = none) (A : DE X a ρ ω (.v (.tuple ps)) ω1) (hg : Gl X "list" := by rfl) (hs : Sg X a [] pos := by exact ⟨rfl, rfl⟩) : DN X (.Call (.Name "list" p) [a] [] pos) ρ ω (.lst ps) ω1 :=
  dn_callT call_list_of hs hg hm (by decide +kernel) (da_one A hs.he) fun Z HF H σ vs Q S r q => by
    obtain ⟨x, _, rfl, r1, rfl⟩ := r
    obtain ⟨l, us, rfl, h1, h2, h3⟩ := r1
    exact ⟨l, us, rfl, .inr (SqT.of (S.fh _ _ h1)), fun p hp => q p HF _ (Same.refl _) (S.newC hp (cell_lst h2 h3))⟩
theorem rps_bls {H : Hp} : ∀ {bs : List Bool} {vs : List V}, Rps H (bs.map cB) vs → vs = bs.map V.bl
  | [], vs, h => h
  | b :: bs, vs, h => by
    obtain ⟨v, r, rfl, h1, h2⟩ := h
    rw [show v = .bl b from h1, rps_bls h2]
    rfl
theorem de_all {bs : List Bool} (hc : X.calm = true) (hm : X.mg "all" = none) (A : DE X a ρ ω (.v (.list (bs.map cB))) ω1) (hg : Gl X "all" := by rfl) (hs : Sg X a [] pos := by exact ⟨rfl, rfl⟩) : DE X (.Call (.Name "all" p) [a] [] pos) ρ ω (.v (cB (bs.all id))) ω1 :=
  de_callB (cr_all hc) hs hg hm (by decide +kernel) (da_one A hs.he) fun Z HF H σ vs Q S r q => by
    obtain ⟨x, _, rfl, r1, rfl⟩ := r
    obtain ⟨l, us, rfl, h1, h2, h3⟩ := r1
    exact ⟨l, bs, rfl, by rw [← rps_bls h3]; exact SqL.of (S.fh _ _ h1), q _ HF H (Same.refl _) S rfl⟩
theorem de_any {bs : List Bool} (hc : X.calm = true) (hm : X.mg "any" = none) (A : DE X a ρ ω (.v (.list (bs.map cB))) ω1) (hg : Gl X "any" := by rfl) (hs : Sg X a [] pos := by exact ⟨rfl, rfl⟩) : DE X (.Call (.Name "any" p) [a] [] pos) ρ ω (.v (cB (bs.any id))) ω1 :=
  de_callB (cr_any hc) hs hg hm (by decide +kernel) (da_one A hs.he) fun Z HF H σ vs Q S r q => by
    obtain ⟨x, _, rfl, r1, rfl⟩ := r
    obtain ⟨l, us, rfl, h1, h2, h3⟩ := r1
    exact ⟨l, bs, rfl, by rw [← rps_bls h3]; exact SqL.of (S.fh _ _ h1), q _ HF H (Same.refl _) S rfl⟩
end
end
end Q
end

section
set_option Elab.async false
set_option linter.all false
set_option maxRecDepth 100000
set_option maxHeartbeats 1000000
/-! LAYER 3: statements, loops, comprehensions, the calls of one's own defs. -/
namespace Q
open PySem L2

/-! ### what a statement comes to -/
inductive Out where
  | nx (ρ : En) (ω : Sto)
  | rt (d : D) (ω : Sto)
  | bk (ρ : En) (ω : Sto)
  | ct (ρ : En) (ω : Sto)
  | ex (f : Zone → Hp → Prop) (m : ∀ (Z : Zone) (HF HF' : Hp), Same HF HF' → f Z HF → f Z HF')
def Hd (Z : Zone) (HF : Hp) (E : Ends) : Out → Prop
  | .nx ρ ω => ∀ σ' HF' H', Same HF HF' → SK Z HF' H' σ' ρ ω → E.nx σ' H'
  | .rt d ω => ∀ v HF' H', Same HF HF' → SK Z HF' H' [] [] ω → RD HF' d v → E.rt v H'
  | .bk ρ ω => ∀ σ' HF' H', Same HF HF' → SK Z HF' H' σ' ρ ω → E.bk σ' H'
  | .ct ρ ω => ∀ σ' HF' H', Same HF HF' → SK Z HF' H' σ' ρ ω → E.ct σ' H'
  | .ex f _ => f Z HF
theorem Hd.mono {Z : Zone} {HF HF' : Hp} {E : Ends} (e : Same HF HF') : ∀ {o : Out}, Hd Z HF E o → Hd Z HF' E o
  | .nx _ _, h => fun σ' HF2 H' e' S => h σ' HF2 H' (e.trans e') S
  | .rt _ _, h => fun σ' HF2 H' e' S => h σ' HF2 H' (e.trans e') S
  | .bk _ _, h => fun σ' HF2 H' e' S => h σ' HF2 H' (e.trans e') S
  | .ct _ _, h => fun σ' HF2 H' e' S => h σ' HF2 H' (e.trans e') S
  | .ex f m, h => m _ _ _ e h
abbrev OP := Out → Prop
def tsD (ρ : En) (ω : Sto) (P : OP) : TS := fun E σ H => ∃ Z HF, SK Z HF H σ ρ ω ∧ ∀ o, P o → Hd Z HF E o
abbrev DS (X : Cx) (st : Stmt) (ρ : En) (ω : Sto) (P : OP) : Prop := PS X st (tsD ρ ω P)
abbrev DSs (X : Cx) (st : List Stmt) (ρ : En) (ω : Sto) (P : OP) : Prop := PSs X st (tsD ρ ω P)
def Out.isNx : Out → Prop
  | .nx _ _ => True
  | _ => False
def Pk (ω ω' : Sto) : Prop := ∃ js : List Nat, js.map (fun j => ω[j]?) = ω'.map some ∧ js.Nodup
theorem Pk.refl (ω : Sto) : Pk ω ω := by
  refine ⟨List.range ω.length, ?_, List.nodup_range⟩
  apply List.ext_getElem
  · simp
  · intro i h1 h2
    simp at h1
    simp [List.getElem?_eq_getElem h1]
theorem Pk.sk {Z : Zone} {HF H : Hp} {σ : L2.St} {ρ : En} {ω ω' : Sto} (p : Pk ω ω') (S : SK Z HF H σ ρ ω) : SK Z HF H σ ρ ω' := let ⟨_, h, n⟩ := p; S.pick h n
/-- it goes on to (ρ', ω') or something less known | it leaves otherwise, as P says -/
def Exit (P : OP) : OP := fun o => P o ∧ ¬ o.isNx
def NxP (ρ' : En) (ω' : Sto) (P : OP) : OP := fun o => (∃ ρ1 ω1, o = .nx ρ1 ω1 ∧ Wk ρ1 ρ' ∧ Pk ω1 ω') ∨ Exit P o
section
variable {X : Cx} {ρ ρ' : En} {ω ω' ω1 ω2 ω3 : Sto} {d d1 d2 : D} {e a b c : Expr} {es : List Expr} {pos : Pos} {P P1 P2 : OP} {st : Stmt} {rest body els : List Stmt}

theorem dss_imp (h : DSs X rest ρ ω P1) (i : ∀ o, P1 o → P o) : DSs X rest ρ ω P := pss_mono h fun E σ H ⟨Z, HF, S, q⟩ => ⟨Z, HF, S, fun o p => q o (i o p)⟩
theorem dss_pre {ρ0 : En} {ω0 : Sto} (h : DSs X rest ρ ω P) (w : Wk ρ0 ρ) (p : Pk ω0 ω) : DSs X rest ρ0 ω0 P := pss_mono h fun E σ H ⟨Z, HF, S, q⟩ => ⟨Z, HF, p.sk (S.weak w), q⟩
theorem dss_nil (h : P (.nx ρ ω)) : DSs X [] ρ ω P := pss_mono pss_nil fun E σ H ⟨Z, HF, S, q⟩ => q _ h σ HF H (Same.refl _) S
/-- the end of a block whose end is known up to what is forgotten -/
theorem dss_end (w : Wk ρ ρ') (p : Pk ω ω') : DSs X [] ρ ω (NxP ρ' ω' P) := dss_nil (.inl ⟨ρ, ω, rfl, w, p⟩)
theorem dss_step {t : TS} (h1 : PS X st t) (h2 : DSs X rest ρ' ω' P)
    (i : ∀ E σ H Z HF, SK Z HF H σ ρ ω → (∀ σ' HF' H', Same HF HF' → SK Z HF' H' σ' ρ' ω' → E.nx σ' H') → t E σ H) : DSs X (st :: rest) ρ ω P :=
  pss_mono (pss_cons h1 h2) fun E σ H ⟨Z, HF, S, q⟩ => i _ σ H Z HF S fun σ' HF' H' e S' => ⟨Z, HF', S', fun o p => (q o p).mono e⟩
/-- a statement with ends of several kinds -/
theorem dss_gen (h1 : DS X st ρ ω P1) (h2 : ∀ ρ' ω', P1 (.nx ρ' ω') → DSs X rest ρ' ω' P) (h3 : ∀ o, P1 o → ¬ o.isNx → P o) : DSs X (st :: rest) ρ ω P :=
  pss_mono (pss_cons h1 (pss_any (ι := { x : En × Sto // P1 (.nx x.1 x.2) }) fun x => h2 x.1.1 x.1.2 x.2)) fun E σ H ⟨Z, HF, S, q⟩ => ⟨Z, HF, S, fun o p => by
    cases o with
    | nx ρ' ω' => exact fun σ' HF' H' e S' => ⟨⟨(ρ', ω'), p⟩, Z, HF', S', fun o p' => (q o p').mono e⟩
    | rt d ω' => exact q _ (h3 _ p fun z => z)
    | bk ρ' ω' => exact q _ (h3 _ p fun z => z)
    | ct ρ' ω' => exact q _ (h3 _ p fun z => z)
    | ex f m => exact q _ (h3 _ p fun z => z)⟩
theorem dss_last (h1 : DS X st ρ ω P) : DSs X [st] ρ ω P := pss_mono (pss_one h1) fun E σ H q => q

/-! ### simple statements -/
/-- x = e, x the name in slot i -/
theorem dss_set (i : Nat) {x : Str} {px : Pos} (A : DE X e ρ ω d ω1) (B : DSs X rest ρ' ω1 P) (hρ : ρ.set i (some d) = ρ' := by rfl) (hi : X.N[i]? = some x := by rfl) (hN : X.N.Nodup := by assumption) (hx : Loc X.env.scope x := by first | exact .inl rfl | exact .inr rfl)
    (hs : swapsWith e (some (.Name x px)) pos.line X.env = pure false := by rfl) (hf : X.fn x = true ∨ X.env.scope.names.lookup x = some .local := by first | exact .inl rfl | exact .inr rfl) : DSs X (.Assign [.Name x px] e pos :: rest) ρ ω P :=
  dss_step (ps_set hN hi hx A hs hf) B fun E σ H Z HF S q => ⟨Z, HF, S, fun v HF1 H1 e1 S1 r1 => q _ HF1 H1 e1 (hρ ▸ S1.set i r1)⟩
theorem dss_setN (i : Nat) {x : Str} {px : Pos} {cc : Cell} (A : DN X e ρ ω cc ω1) (B : ∀ p, DSs X rest (ρ.set i (some (.adr p))) (ω1 ++ [(p, cc)]) P) (hi : X.N[i]? = some x := by rfl) (hN : X.N.Nodup := by assumption) (hx : Loc X.env.scope x := by first | exact .inl rfl | exact .inr rfl)
    (hs : swapsWith e (some (.Name x px)) pos.line X.env = pure false := by rfl) (hf : X.fn x = true ∨ X.env.scope.names.lookup x = some .local := by first | exact .inl rfl | exact .inr rfl) : DSs X (.Assign [.Name x px] e pos :: rest) ρ ω P :=
  pss_mono (pss_cons (ps_set hN hi hx A hs hf) (pss_any B)) fun E σ H ⟨Z, HF, S, q⟩ => ⟨Z, HF, S, fun p HF1 H1 e1 S1 => ⟨p, Z, HF1, S1.set i (d := .adr p) rfl, fun o po => (q o po).mono e1⟩⟩
theorem dss_expr (A : DE X e ρ ω d ω1) (B : DSs X rest ρ ω1 P) (hs : swapsWith e none pos.line X.env = pure false := by rfl) : DSs X (.Expr e pos :: rest) ρ ω P :=
  dss_step (ps_expr A hs) B fun E σ H Z HF S q => ⟨Z, HF, S, fun v HF1 H1 e1 S1 r1 => q _ HF1 H1 e1 S1⟩
theorem dss_doc {x : Str} {j : Nat} {p2 : Pos} (B : DSs X rest ρ ω P) : DSs X (.Expr (.Constant (.str x) j p2) pos :: rest) ρ ω P := dss_step ps_doc B fun E σ H Z HF S q => q _ HF H (Same.refl _) S
theorem dss_pass (B : DSs X rest ρ ω P) : DSs X (.Pass pos :: rest) ρ ω P := dss_step ps_pass B fun E σ H Z HF S q => q _ HF H (Same.refl _) S
theorem dss_ret (A : DE X e ρ ω d ω1) (h : P (.rt d ω1)) : DSs X (.Return (some e) pos :: rest) ρ ω P :=
  dss_gen (P1 := (· = .rt d ω1)) (ps_mono (ps_ret A) fun E σ H ⟨Z, HF, S, q⟩ => ⟨Z, HF, S, fun v HF1 H1 e1 S1 r1 => q _ rfl v HF1 H1 e1 S1.noenv r1⟩) (fun _ _ h => nomatch h) (fun o p _ => p ▸ h)
theorem dss_retC {cc : Cell} (A : DN X e ρ ω cc ω1) (h : ∀ p, P (.rt (.adr p) (ω1 ++ [(p, cc)]))) : DSs X (.Return (some e) pos :: rest) ρ ω P :=
  dss_gen (P1 := fun o => ∃ p, o = .rt (.adr p) (ω1 ++ [(p, cc)])) (ps_mono (ps_ret A) fun E σ H ⟨Z, HF, S, q⟩ => ⟨Z, HF, S, fun p HF1 H1 e1 S1 => q _ ⟨p, rfl⟩ _ HF1 H1 e1 S1.noenv rfl⟩) (fun _ _ ⟨_, h⟩ => nomatch h) (fun o ⟨p, hp⟩ _ => hp ▸ h p)
theorem dss_retN (h : P (.rt (.v .none) ω)) : DSs X (.Return none pos :: rest) ρ ω P :=
  dss_gen (P1 := (· = .rt (.v .none) ω)) (ps_mono ps_retN fun E σ H ⟨Z, HF, S, q⟩ => q _ rfl _ HF H (Same.refl _) S.noenv rfl) (fun _ _ h => nomatch h) (fun o p _ => p ▸ h)
theorem dss_brk (h : P (.bk ρ ω)) : DSs X (.Break pos :: rest) ρ ω P :=
  dss_gen (P1 := (· = .bk ρ ω)) (ps_mono ps_break fun E σ H ⟨Z, HF, S, q⟩ => q _ rfl _ HF H (Same.refl _) S) (fun _ _ h => nomatch h) (fun o p _ => p ▸ h)
theorem dss_cont (h : P (.ct ρ ω)) : DSs X (.Continue pos :: rest) ρ ω P :=
  dss_gen (P1 := (· = .ct ρ ω)) (ps_mono ps_continue fun E σ H ⟨Z, HF, S, q⟩ => q _ rfl _ HF H (Same.refl _) S) (fun _ _ h => nomatch h) (fun o p _ => p ▸ h)
/-- never come to -/
theorem dss_never (h : False) : DSs X rest ρ ω P := h.elim

/-! ### if -/
theorem ds_if {k : Bool} (T : DT X c ρ ω k ω1) (h1 : k = true → DSs X body ρ ω1 P) (h2 : k = false → DSs X els ρ ω1 P) : DS X (.If c body els pos) ρ ω P :=
  ps_mono (ps_if T (pss_case h1) (pss_case h2)) fun E σ H ⟨Z, HF, S, q⟩ => ⟨Z, HF, S, fun HF1 H1 e1 S1 => by
    cases k with
    | true => exact ⟨rfl, Z, HF1, S1, fun o p => (q o p).mono e1⟩
    | false => exact ⟨rfl, Z, HF1, S1, fun o p => (q o p).mono e1⟩⟩
/-- both ways join at (ρ', ω'), or leave -/
theorem dss_join {k : Bool} (ρ' : En) (ω' : Sto) (T : DT X c ρ ω k ω1) (h1 : k = true → DSs X body ρ ω1 (NxP ρ' ω' P)) (h2 : k = false → DSs X els ρ ω1 (NxP ρ' ω' P)) (h3 : DSs X rest ρ' ω' P) : DSs X (.If c body els pos :: rest) ρ ω P :=
  dss_gen (ds_if T h1 h2) (fun ρ1 ω1 h => by
    rcases h with ⟨_, _, e, w, p⟩ | ⟨_, h⟩
    · cases e; exact dss_pre h3 w p
    · exact absurd trivial h) (fun o h n => by
    rcases h with ⟨_, _, e, w, p⟩ | ⟨h, _⟩
    · subst e; exact absurd trivial n
    · exact h)
/-- the body leaves, else it goes on -/
theorem dss_if1 {k : Bool} (T : DT X c ρ ω k ω1) (h1 : k = true → DSs X body ρ ω1 (Exit P)) (h2 : k = false → DSs X rest ρ ω1 P) : DSs X (.If c body [] pos :: rest) ρ ω P :=
  dss_gen (P1 := fun o => (k = true ∧ Exit P o) ∨ (k = false ∧ o = .nx ρ ω1)) (ds_if T (fun hk => dss_imp (h1 hk) fun o p => .inl ⟨hk, p⟩) (fun hk => dss_nil (.inr ⟨hk, rfl⟩))) (fun ρ1 ω1 h => by
    rcases h with ⟨_, _, h⟩ | ⟨hk, e⟩
    · exact absurd trivial h
    · cases e; exact h2 hk) (fun o h n => by
    rcases h with ⟨_, h, _⟩ | ⟨hk, e⟩
    · exact h
    · subst e; exact absurd trivial n)
/-- both ways leave (the last statement) -/
theorem dss_if2 {k : Bool} (T : DT X c ρ ω k ω1) (h1 : k = true → DSs X body ρ ω1 P) (h2 : k = false → DSs X els ρ ω1 P) : DSs X [.If c body els pos] ρ ω P := dss_last (ds_if T h1 h2)
/-- the whole rest told twice -/
theorem dss_if3 {k : Bool} (T : DT X c ρ ω k ω1) (h1 : k = true → DSs X body ρ ω1 (Exit P)) (h2 : k = false → DSs X els ρ ω1 (Exit P)) : DSs X (.If c body els pos :: rest) ρ ω P :=
  dss_gen (ds_if T h1 h2) (fun ρ1 ω1 h => absurd trivial h.2) (fun o h _ => h.1)

/-! ### cells: lists -/
def SubA (X : Cx) (o i : Expr) (p1 : Pos) : Prop := ∀ v, assign (.Subscript o i p1) X.env v = (do
      let ov ← holding [v] (eval o X.env)
      let iv ← holding [v, ov] (eval i X.env)
      standAt p1
      holding [v, ov, iv] (setItem ov iv v)
      release [v, ov, iv] [])
theorem de_append (j : Nat) {ω' : Sto} {l : Addr} {ps : List PyData} {p : PyData} {apos : Pos} (A : DE X a ρ ω (.adr l) ω1) (B : DE X b ρ ω1 (.v p) ω2) (hz : ps.length < sizeLine) (hj : ω2[j]? = some (l, .lst ps) := by rfl) (hω : ω2.set j (l, .lst (ps ++ [p])) = ω' := by rfl) (hj1 : ∃ ps', ω1[j]? = some (l, .lst ps') := by exact ⟨_, rfl⟩)
    (hbase : attributeBase a "append" X.env (eval a X.env) = eval a X.env := by rfl)
    (hfew : ((backTo pos (starEach [b] X.env)).all (fun x => !x.1) && (backToKw pos (keywordEach [] X.env)).all (fun x => x.1.isSome) && decide ([b].length + ([] : List Keyword).length + (if ([] : List Keyword).isEmpty then 0 else 1) < 30)) = true := by rfl)
    (hline : (apos.endLine == pos.line) = true := by rfl) (hs : starEach [b] X.env = (false, eval b X.env) :: starEach [] X.env := by rfl) (hplain : (backTo pos (starEach [] X.env)).any (·.1) = false := by rfl) :
    DE X (.Call (.Attribute a "append" apos) [b] [] pos) ρ ω (.v .none) ω' :=
  pe_mono (pe_bm PySem.F.plainAttrs_list PySem.F.slot_list_append PySem.F.type_list_append mt_append A (da_one B hs) hbase hfew hline hs hplain) fun σ H Q ⟨Z, HF, S, q⟩ => ⟨Z, HF, S, fun v HF1 H1 e1 S1 r1 => by
    cases (show v = .ref l from r1)
    obtain ⟨ps', hj1'⟩ := hj1
    obtain ⟨fp, rfl, vs, h1, _, _⟩ := S1.cell hj1'
    refine ⟨.inl ⟨rfl, vs, SqL.of h1⟩, Z, HF1, S1, fun ws HF2 H2 e2 S2 r2 => ?_⟩
    obtain ⟨y, _, rfl, r2, rfl⟩ := r2
    obtain ⟨fp, rfl, us, g1, g2, g3⟩ := S2.cell hj
    have hl : us.length < sizeLine := by rw [g3.length]; exact hz
    refine ⟨l, us, y, rfl, rfl, g1, hl, ?_⟩
    subst hω
    refine q _ HF2 _ (e1.trans e2) (S2.wrote hj fun fp c nd => ?_) rfl
    obtain ⟨rfl, us', k1, k2, k3⟩ := c
    rw [g1] at k1; cases k1
    exact ⟨[l], ⟨rfl, us ++ [y], upd_same, by rw [List.length_append]; exact hl, k3.append (Rps.one r2)⟩, by simp, fun b hb => .inl hb, fun b n _ => upd_ne fun z => n (by rw [z]; exact List.mem_singleton.mpr rfl)⟩⟩
/-- xs.pop(i) -/
theorem de_popAt (j : Nat) {ω' : Sto} {l : Addr} {ps : List PyData} {p : PyData} {i : Int} {k : Nat} {apos : Pos} (A : DE X a ρ ω (.adr l) ω1) (B : DE X b ρ ω1 (.v (cI i)) ω2) (hk : ixN ps.length i = some k) (hp : ps[k]? = some p) (hi : -(2 ^ 63) ≤ i ∧ i < 2 ^ 63) (hj : ω2[j]? = some (l, .lst ps) := by rfl) (hω : ω2.set j (l, .lst (ps.eraseIdx k)) = ω' := by rfl) (hj1 : ∃ ps', ω1[j]? = some (l, .lst ps') := by exact ⟨_, rfl⟩)
    (hbase : attributeBase a "pop" X.env (eval a X.env) = eval a X.env := by rfl)
    (hfew : ((backTo pos (starEach [b] X.env)).all (fun x => !x.1) && (backToKw pos (keywordEach [] X.env)).all (fun x => x.1.isSome) && decide ([b].length + ([] : List Keyword).length + (if ([] : List Keyword).isEmpty then 0 else 1) < 30)) = true := by rfl)
    (hline : (apos.endLine == pos.line) = true := by rfl) (hs : starEach [b] X.env = (false, eval b X.env) :: starEach [] X.env := by rfl) (hplain : (backTo pos (starEach [] X.env)).any (·.1) = false := by rfl) :
    DE X (.Call (.Attribute a "pop" apos) [b] [] pos) ρ ω (.v p) ω' :=
  pe_mono (pe_bm PySem.F.plainAttrs_list PySem.F.slot_list_pop PySem.F.type_list_pop mt_popAt A (da_one B hs) hbase hfew hline hs hplain) fun σ H Q ⟨Z, HF, S, q⟩ => ⟨Z, HF, S, fun v HF1 H1 e1 S1 r1 => by
    cases (show v = .ref l from r1)
    obtain ⟨ps', hj1'⟩ := hj1
    obtain ⟨fp, rfl, vs, h1, _, _⟩ := S1.cell hj1'
    refine ⟨.inl ⟨rfl, vs, SqL.of h1⟩, Z, HF1, S1, fun ws HF2 H2 e2 S2 r2 => ?_⟩
    obtain ⟨y, _, rfl, r2, rfl⟩ := r2
    obtain ⟨fp, rfl, us, g1, g2, g3⟩ := S2.cell hj
    obtain ⟨v, v1, v2⟩ := g3.get hp
    refine ⟨l, us, i, k, v, rfl, by rw [show y = .int i from r2], g1, hi.1, hi.2, by rw [g3.length]; exact (ixN_seq hk).1, v1, ?_⟩
    subst hω
    refine q _ HF2 _ (e1.trans e2) (S2.wrote hj fun fp c nd => ?_) v2
    obtain ⟨rfl, us', k1, k2, k3⟩ := c
    rw [g1] at k1; cases k1
    exact ⟨[l], ⟨rfl, us.eraseIdx k, upd_same, Nat.le_trans (by rw [List.length_eraseIdx]; split <;> omega) g2, k3.eraseIdx k⟩, by simp, fun b hb => .inl hb, fun b n _ => upd_ne fun z => n (by rw [z]; exact List.mem_singleton.mpr rfl)⟩⟩
/-- xs[i] = e -/
theorem dss_setIx (j : Nat) {ω' : Sto} {l : Addr} {ps : List PyData} {p : PyData} {i : Int} {k : Nat} {o ix : Expr} {p1 : Pos} (A : DE X e ρ ω (.v p) ω1) (B : DE X o ρ ω1 (.adr l) ω2) (C : DE X ix ρ ω2 (.v (cI i)) ω3) (hk : ixN ps.length i = some k) (R : DSs X rest ρ ω' P) (hj : ω3[j]? = some (l, .lst ps) := by rfl) (hω : ω3.set j (l, .lst (ps.set k p)) = ω' := by rfl)
    (hs : swapsWithSole [.Subscript o ix p1] e pos.line X.env = pure false := by rfl) (hw : swappedStores [.Subscript o ix p1] e X.env = pure none := by rfl)
    (h1 : (assignEach [.Subscript o ix p1] X.env).map (·.2) = [assign (.Subscript o ix p1) X.env] := by rfl) (ha : SubA X o ix p1 := by exact fun _ => rfl) : DSs X (.Assign [.Subscript o ix p1] e pos :: rest) ρ ω P :=
  dss_step (ps_asg A (pg_sub B C set_list ha) hs hw h1) R fun E σ H Z HF S q => ⟨Z, HF, S, fun v HF1 H1 e1 S1 r1 => ⟨Z, HF1, S1, fun x HF2 H2 e2 S2 r2 => ⟨Z, HF2, S2, fun y HF3 H3 e3 S3 r3 => by
    cases (show x = .ref l from r2)
    obtain ⟨fp, rfl, us, g1, g2, g3⟩ := S3.cell hj
    refine ⟨l, us, i, k, rfl, r3, g1, by rw [g3.length]; exact hk, ?_⟩
    subst hω
    refine q _ HF3 _ ((e1.trans e2).trans e3) (S3.wrote hj fun fp c nd => ?_)
    obtain ⟨rfl, us', k1, k2, k3⟩ := c
    rw [g1] at k1; cases k1
    exact ⟨[l], ⟨rfl, us.set k v, upd_same, by rw [List.length_set]; exact g2, k3.set ((RD.rp r1).mono (e2.trans e3))⟩, by simp, fun b hb => .inl hb, fun b n _ => upd_ne fun z => n (by rw [z]; exact List.mem_singleton.mpr rfl)⟩⟩⟩⟩
/-- nobody will change the list in slot i, cell j, any more -/
theorem dss_frz (i : Nat) (js : List Nat) {l : Addr} {ps : List PyData} (hi : ρ[i]? = some (some (.adr l))) (hj : js.map (fun j => ω[j]?) = (ω' ++ [(l, Cell.lst ps)]).map some) (hn : js.Nodup) (R : DSs X rest (ρ.set i (some (.v (.list ps)))) ω' P) : DSs X rest ρ ω P :=
  pss_mono R fun E σ H ⟨Z, HF, S, q⟩ => by
    obtain ⟨HF1, e1, S1, r1⟩ := (S.pick hj hn).freezeL
    obtain ⟨v, hv, rv⟩ := S.sl i _ hi
    cases (show v = .ref l from rv)
    have S2 := S1.set i (d := .v (.list ps)) (v := .ref l) r1
    have hσ : σ.set i (some (.ref l)) = σ := by
      obtain ⟨hl, he⟩ := List.getElem?_eq_some_iff.mp hv
      rw [← he]
      exact List.set_getElem_self hl
    rw [hσ] at S2
    exact ⟨Z, HF1, S2, fun o p => (q o p).mono e1⟩
end

/-! ### targets -/
inductive Tg where
  | nm (i : Nat)
  | tp (is : List Nat)
  | ls (is : List Nat)
def gNs : List Nat → TGs
  | [] => gNil
  | i :: is => gCons (gName i) (gNs is)
def Tg.g (K : PySem.W.Frag) : Tg → TG
  | .nm i => gName i
  | .tp is => gTup K is.length (gNs is)
  | .ls is => gLst K is.length (gNs is)
def setNs : List Nat → List PyData → En → En
  | i :: is, p :: ps, ρ => setNs is ps (ρ.set i (some (.v p)))
  | _, _, ρ => ρ
def Tg.bind : Tg → D → En → En
  | .nm i, d, ρ => ρ.set i (some d)
  | .tp is, .v (.tuple ps), ρ => setNs is ps ρ
  | .ls is, .v (.list ps), ρ => setNs is ps ρ
  | _, _, ρ => ρ
def Tg.fits : Tg → D → Bool
  | .nm _, _ => true
  | .tp is, .v (.tuple ps) => decide (ps.length = is.length)
  | .ls is, .v (.list ps) => decide (ps.length = is.length)
  | _, _ => false
def Tg.slots : Tg → List Nat
  | .nm i => [i]
  | .tp is => is
  | .ls is => is
theorem wipe_set_mem {σ : L2.St} {i : Nat} {x : Option V} : ∀ {vs : List Nat}, i ∈ vs → wipe (σ.set i x) vs = wipe σ vs := by
  intro vs h
  have key : ∀ (vs : List Nat) (k : Nat), (wipe σ vs)[k]? = if k ∈ vs then (if k < σ.length then some none else none) else σ[k]? := by
    intro vs
    induction vs with
    | nil => intro k; rfl
    | cons v vs ih =>
      intro k
      unfold wipe
      by_cases hk : v = k
      · subst hk
        rw [if_pos List.mem_cons_self]
        by_cases hl : v < σ.length
        · rw [if_pos hl, List.getElem?_set_self (by rw [wipe_length]; exact hl)]
        · rw [if_neg hl, List.getElem?_eq_none (by rw [List.length_set, wipe_length]; omega)]
      · rw [List.getElem?_set_ne hk, ih k]
        have : (k ∈ v :: vs) ↔ k ∈ vs := by rw [List.mem_cons]; exact ⟨fun z => z.elim (fun z => absurd z.symm hk) id, .inr⟩
        simp only [this]
  have key2 : ∀ (vs : List Nat) (k : Nat), (wipe (σ.set i x) vs)[k]? = if k ∈ vs then (if k < σ.length then some none else none) else (σ.set i x)[k]? := by
    intro vs
    induction vs with
    | nil => intro k; rfl
    | cons v vs ih =>
      intro k
      unfold wipe
      by_cases hk : v = k
      · subst hk
        rw [if_pos List.mem_cons_self]
        by_cases hl : v < σ.length
        · rw [if_pos hl, List.getElem?_set_self (by rw [wipe_length, List.length_set]; exact hl)]
        · rw [if_neg hl, List.getElem?_eq_none (by rw [List.length_set, wipe_length, List.length_set]; omega)]
      · rw [List.getElem?_set_ne hk, ih k]
        have : (k ∈ v :: vs) ↔ k ∈ vs := by rw [List.mem_cons]; exact ⟨fun z => z.elim (fun z => absurd z.symm hk) id, .inr⟩
        simp only [this]
  apply List.ext_getElem?
  intro k
  rw [key vs k, key2 vs k]
  by_cases hk : k ∈ vs
  · rw [if_pos hk, if_pos hk]
  · rw [if_neg hk, if_neg hk, List.getElem?_set_ne (show i ≠ k from fun z => hk (z ▸ h))]
theorem gNs_run {Z : Zone} {HF H : Hp} {ω : Sto} {vs0 : List Nat} : ∀ {is : List Nat} {ps : List PyData} {vs : List V} {σ : L2.St} {ρ : En} {Q : L2.St → Hp → Prop}, SK Z HF H σ ρ ω → Rps HF ps vs → ps.length = is.length →
    (∀ σ', SK Z HF H σ' (setNs is ps ρ) ω → ((∀ i ∈ is, i ∈ vs0) → wipe σ' vs0 = wipe σ vs0) → Q σ' H) → gNs is vs σ H Q
  | [], ps, vs, σ, ρ, Q, S, r, hl, q => by
    cases ps with
    | nil => cases r; exact ⟨rfl, q σ S fun _ => rfl⟩
    | cons p ps => simp at hl
  | i :: is, ps, vs, σ, ρ, Q, S, r, hl, q => by
    cases ps with
    | nil => simp at hl
    | cons p ps =>
      obtain ⟨v, t, rfl, r1, r2⟩ := r
      refine ⟨v, t, rfl, ?_⟩
      exact gNs_run (S.set i (d := .v p) r1) r2 (by simpa using hl) fun σ' S' w => q σ' S' fun hm => (w fun k hk => hm k (List.mem_cons_of_mem _ hk)).trans (wipe_set_mem (hm i List.mem_cons_self))
/-- a target stored to -/
theorem Tg.run {K : PySem.W.Frag} {t : Tg} {d : D} {x : V} {Z : Zone} {HF H : Hp} {σ : L2.St} {ρ : En} {ω : Sto} {vs0 : List Nat} {Q : L2.St → Hp → Prop} (hf : t.fits d = true) (S : SK Z HF H σ ρ ω) (r : RD HF d x)
    (q : ∀ σ', SK Z HF H σ' (t.bind d ρ) ω → ((∀ i ∈ t.slots, i ∈ vs0) → wipe σ' vs0 = wipe σ vs0) → Q σ' H) : t.g K x σ H Q := by
  cases t with
  | nm i => exact q _ (S.set i r) fun hm => wipe_set_mem (hm i (List.mem_singleton.mpr rfl))
  | tp is =>
    match d, hf with
    | .v (.tuple ps), hf =>
      obtain ⟨a, vs, rfl, h1, h2, h3⟩ := r
      exact ⟨a, vs, rfl, SqT.of (S.fh _ _ h1), by rw [h3.length]; exact of_decide_eq_true hf, gNs_run S h3 (of_decide_eq_true hf) q⟩
  | ls is =>
    match d, hf with
    | .v (.list ps), hf =>
      obtain ⟨a, vs, rfl, h1, h2, h3⟩ := r
      exact ⟨a, vs, rfl, SqL.of (S.fh _ _ h1), by rw [h3.length]; exact of_decide_eq_true hf, gNs_run S h3 (of_decide_eq_true hf) q⟩
section
variable {X : Cx} {ρ ρ' : En} {ω ω' ω1 ω2 ω3 : Sto} {d d1 d2 : D} {e a b c : Expr} {es : List Expr} {pos : Pos} {P P1 P2 : OP} {st : Stmt} {rest body els : List Stmt}
/-- a, b = e, e one value -/
theorem dss_asg {tg : Expr} (t : Tg) (A : DE X e ρ ω d ω1) (hg : PG X tg (t.g X.K)) (hf : t.fits d = true := by rfl) (B : DSs X rest (t.bind d ρ) ω1 P) (hs : swapsWithSole [tg] e pos.line X.env = pure false := by rfl) (hw : swappedStores [tg] e X.env = pure none := by rfl)
    (h1 : (assignEach [tg] X.env).map (·.2) = [assign tg X.env] := by rfl) : DSs X (.Assign [tg] e pos :: rest) ρ ω P :=
  dss_step (ps_asg A hg hs hw h1) B fun E σ H Z HF S q => ⟨Z, HF, S, fun v HF1 H1 e1 S1 r1 => Tg.run (vs0 := []) hf S1 r1 fun σ' S' _ => q σ' HF1 H1 e1 S'⟩
/-- a, b = e1, e2, two local names -/
theorem dss_par (i j : Nat) {x y : Str} {px py pt pt2 : Pos} {kt k2 : Nat} (A : DA X [a, b] ρ ω [d1, d2] ω1) (B : DSs X rest ((ρ.set i (some d1)).set j (some d2)) ω1 P) (hc : X.calm = true := by rfl) (hN : X.N.Nodup := by assumption) (hi : X.N[i]? = some x := by rfl) (hj : X.N[j]? = some y := by rfl) (hij : i ≠ j := by decide)
    (hx : X.env.scope.names.lookup x = some .local := by rfl) (hy : X.env.scope.names.lookup y = some .local := by rfl)
    (hw : swappedStores [.Tuple [.Name x px, .Name y py] kt pt] (.Tuple [a, b] k2 pt2) X.env = pure (some [x, y]) := by rfl)
    (hs : swapsWithSole [.Tuple [.Name x px, .Name y py] kt pt] (.Tuple [a, b] k2 pt2) pos.line X.env = pure false := by rfl) : DSs X (.Assign [.Tuple [.Name x px, .Name y py] kt pt] (.Tuple [a, b] k2 pt2) pos :: rest) ρ ω P :=
  dss_step (ps_par hc hN hi hj hij hx hy A hw hs) B fun E σ H Z HF S q => ⟨Z, HF, S, fun vs HF1 H1 e1 S1 r1 => by
    obtain ⟨v, _, rfl, r1, w, _, rfl, r2, rfl⟩ := r1
    exact ⟨v, w, rfl, q _ HF1 H1 e1 ((S1.set i r1).set j r2)⟩⟩
end

/-! ### what is walked -/
/-- the iterator J yields the items its, whatever becomes of the state -/
def ItOk (J : It) (its : List D) (HF1 : Hp) : Prop := its.length ≤ sizeLine ∧ ∀ HF2 H2, Same HF1 HF2 → Same HF2 H2 → ∀ i, (i = its.length → J.stop i H2) ∧ ∀ d, its[i]? = some d → J.go i H2 ∧ ∀ x H3, J.yld i H2 x H3 →
  (H3 = H2 ∧ RD HF2 d x) ∨ ∃ p o, H2 p = none ∧ H3 = upd H2 p o ∧ RD (upd HF2 p o) d x
def tiD (ρ : En) (ω : Sto) (its : List D) (ω' : Sto) : TI := fun σ H R => ∃ Z HF, SK Z HF H σ ρ ω ∧ ∀ J HF1 H1, Same HF HF1 → SK Z HF1 H1 σ ρ ω' → ItOk J its HF1 → R J H1
abbrev DI (X : Cx) (tg iter : Expr) (ρ : En) (ω : Sto) (its : List D) (ω' : Sto) : Prop := PI X tg iter (tiD ρ ω its ω')
section
variable {X : Cx} {ρ : En} {ω ω1 : Sto} {tg e : Expr}
theorem rps_at {HF : Hp} {ps : List PyData} {vs : List V} (r : Rps HF ps vs) {i : Nat} {x : V} (h : vs[i]? = some x) : ∃ p, ps[i]? = some p ∧ Rp HF p x := by
  have hl : i < ps.length := by rw [← r.length]; exact (List.getElem?_eq_some_iff.mp h).1
  obtain ⟨v, h1, h2⟩ := r.get (List.getElem?_eq_getElem hl)
  rw [h] at h1; cases h1
  exact ⟨_, List.getElem?_eq_getElem hl, h2⟩
theorem di_list {ps : List PyData} (A : DE X e ρ ω (.v (.list ps)) ω1) : DI X tg e ρ ω (ps.map D.v) ω1 :=
  pi_mono (pi_list A) fun σ H R ⟨Z, HF, S, q⟩ => ⟨Z, HF, S, fun v HF1 H1 e1 S1 r1 => by
    obtain ⟨a, vs, rfl, h1, h2, h3⟩ := r1
    refine ⟨a, rfl, ⟨vs, SqL.of (S1.fh _ _ h1)⟩, q _ HF1 H1 e1 S1 ⟨by rw [List.length_map, ← h3.length]; exact h2, fun HF2 H2 k1 k2 i => ?_⟩⟩
    have hL : SqL X.K H2 a vs := SqL.of (k2 _ _ (k1 _ _ h1))
    refine ⟨fun hi => ⟨vs, hL, by rw [hi, List.length_map, h3.length]; exact Nat.le_refl _⟩, fun d hd => ?_⟩
    rw [List.getElem?_map] at hd
    cases hp : ps[i]? with
    | none => rw [hp] at hd; cases hd
    | some p =>
      rw [hp] at hd
      cases (Option.some.inj hd)
      obtain ⟨x, x1, x2⟩ := h3.get hp
      refine ⟨⟨vs, x, hL, x1⟩, fun y H3 hy => .inl ⟨hy.1, ?_⟩⟩
      have := hy.2 vs hL
      rw [x1] at this
      cases this
      exact x2.mono k1⟩
theorem di_tup {ps : List PyData} (A : DE X e ρ ω (.v (.tuple ps)) ω1) : DI X tg e ρ ω (ps.map D.v) ω1 :=
  pi_mono (pi_tup A) fun σ H R ⟨Z, HF, S, q⟩ => ⟨Z, HF, S, fun v HF1 H1 e1 S1 r1 => by
    obtain ⟨a, vs, rfl, h1, h2, h3⟩ := r1
    refine ⟨a, rfl, ⟨vs, SqT.of (S1.fh _ _ h1)⟩, q _ HF1 H1 e1 S1 ⟨by rw [List.length_map, ← h3.length]; exact h2, fun HF2 H2 k1 k2 i => ?_⟩⟩
    have hL : SqT X.K H2 a vs := SqT.of (k2 _ _ (k1 _ _ h1))
    refine ⟨fun hi => ⟨vs, hL, by rw [hi, List.length_map, h3.length]; exact Nat.le_refl _⟩, fun d hd => ?_⟩
    rw [List.getElem?_map] at hd
    cases hp : ps[i]? with
    | none => rw [hp] at hd; cases hd
    | some p =>
      rw [hp] at hd
      cases (Option.some.inj hd)
      obtain ⟨x, x1, x2⟩ := h3.get hp
      refine ⟨⟨vs, x, hL, x1⟩, fun y H3 hy => .inl ⟨hy.1, ?_⟩⟩
      have := hy.2 vs hL
      rw [x1] at this
      cases this
      exact x2.mono k1⟩
def rng (lo hi : Int) : List Int := (List.range (hi - lo).toNat).map fun (k : Nat) => lo + (k : Int)
theorem rng_len (lo hi : Int) : (rng lo hi).length = (hi - lo).toNat := by unfold rng; rw [List.length_map, List.length_range]
theorem rng_at (lo hi : Int) (i : Nat) (h : i < (hi - lo).toNat) : (rng lo hi)[i]? = some (lo + (i : Int)) := by
  unfold rng
  rw [List.getElem?_map, List.getElem?_range h]
  rfl
theorem it_rng (lo hi : Int) (hz : (hi - lo).toNat ≤ sizeLine) (HF1 : Hp) : ItOk (Itr lo (hi - lo).toNat) ((rng lo hi).map fun i => .v (cI i)) HF1 := by
  refine ⟨by rw [List.length_map, rng_len]; exact hz, fun HF2 H2 k1 k2 i => ⟨fun h => ?_, fun d hd => ?_⟩⟩
  · rw [List.length_map, rng_len] at h
    exact Nat.le_of_eq h.symm
  · have hl := (List.getElem?_eq_some_iff.mp hd).1
    rw [List.length_map, rng_len] at hl
    refine ⟨hl, fun x H3 hy => .inl ⟨hy.1, ?_⟩⟩
    rw [List.getElem?_map, rng_at lo hi i hl] at hd
    cases (Option.some.inj hd)
    exact hy.2
theorem di_range {n : Int} {p pos : Pos} (hm : X.mg "range" = none) (A : DE X e ρ ω (.v (cI n)) ω1) (hz : n ≤ sizeLine) (hlo : -(2 ^ 62) ≤ n) (hg : Gl X "range" := by rfl) (hs0 : starEach [e] X.env = (false, eval e X.env) :: starEach [] X.env := by rfl) (hs : starEach [e] X.env = [(false, eval e X.env)] := by rfl) :
    DI X tg (.Call (.Name "range" p) [e] [] pos) ρ ω ((rng 0 n).map fun i => .v (cI i)) ω1 :=
  pi_mono (pi_range1 hg hm (da_one A hs0) hs) fun σ H R ⟨Z, HF, S, q⟩ => ⟨Z, HF, S, fun v HF1 H1 e1 S1 r1 => by
    obtain ⟨x, _, rfl, r1, rfl⟩ := r1
    refine ⟨n, by rw [show x = .int n from r1], hlo, by have : (sizeLine : Int) < 2 ^ 62 := by rw [sizeLine_eq]; decide
                                                        omega, q _ HF1 H1 e1 S1 ?_⟩
    have := it_rng 0 n (by omega) HF1
    rw [Int.sub_zero] at this
    exact this⟩
theorem di_range2 {n m : Int} {e2 : Expr} {ω2 : Sto} {p pos : Pos} (hm : X.mg "range" = none) (A : DE X e ρ ω (.v (cI n)) ω1) (B : DE X e2 ρ ω1 (.v (cI m)) ω2) (hz : -sizeLine ≤ n ∧ n ≤ sizeLine ∧ -sizeLine ≤ m ∧ m ≤ sizeLine ∧ m - n ≤ sizeLine) (hg : Gl X "range" := by rfl)
    (hs : starEach [e, e2] X.env = [(false, eval e X.env), (false, eval e2 X.env)] := by rfl) (hs2 : starEach [e2] X.env = [(false, eval e2 X.env)] := by rfl) (hs3 : starEach [e, e2] X.env = (false, eval e X.env) :: starEach [e2] X.env := by rfl) (hs4 : starEach [e2] X.env = (false, eval e2 X.env) :: starEach [] X.env := by rfl) :
    DI X tg (.Call (.Name "range" p) [e, e2] [] pos) ρ ω ((rng n m).map fun i => .v (cI i)) ω2 :=
  pi_mono (pi_range2 hg hm (da_cons A (da_one B hs4) hs3) hs hs2) fun σ H R ⟨Z, HF, S, q⟩ => ⟨Z, HF, S, fun v HF1 H1 e1 S1 r1 => by
    obtain ⟨x, _, rfl, r1, y, _, rfl, r2, rfl⟩ := r1
    have hh : (sizeLine : Int) < 2 ^ 62 := by rw [sizeLine_eq]; decide
    exact ⟨n, m, by rw [show x = .int n from r1, show y = .int m from r2], by omega, q _ HF1 H1 e1 S1 (it_rng n m (by omega) HF1)⟩⟩
theorem di_str {w : Wd} (A : DE X e ρ ω (.v (cS w)) ω1) : DI X tg e ρ ω (w.map fun z => .v (cS [z])) ω1 :=
  pi_mono (pi_str A) fun σ H R ⟨Z, HF, S', q⟩ => ⟨Z, HF, S', fun v HF1 H1 e1 S1 r1 => by
    obtain ⟨rfl, h1, h2⟩ := RD.word r1
    have hz : (S w).cps.size = w.length := by simp [S]
    refine ⟨_, rfl, q _ HF1 H1 e1 S1 ⟨by rw [List.length_map]; exact h1, fun HF2 H2 k1 k2 i => ⟨fun hi => ?_, fun d hd => ?_⟩⟩⟩
    · rw [List.length_map] at hi
      show (S w).cps.size ≤ i
      omega
    · rw [List.getElem?_map] at hd
      cases hp : w[i]? with
      | none => rw [hp] at hd; cases hd
      | some z =>
        rw [hp] at hd
        cases (Option.some.inj hd)
        have hl := (List.getElem?_eq_some_iff.mp hp).1
        refine ⟨(by show i < (S w).cps.size; omega), fun y H3 hy => .inl ⟨hy.1, ?_⟩⟩
        obtain ⟨c, hc, rfl⟩ := hy.2
        have : (S w).cps[i]? = w[i]? := by simp [S]
        rw [this, hp] at hc
        cases hc
        exact rdW (w := [z]) (by show 1 ≤ sizeLine; decide) (okW_mem h2 (List.mem_of_getElem? hp))⟩
end

/-! ### loops -/
inductive Ctl (S R : Type) where
  | nx (s : S)
  | bk (s : S)
  | rt (r : R)
def forC {α S R : Type} (f : α → S → Option (Ctl S R)) : List α → S → Option (Ctl S R)
  | [], s => some (.nx s)
  | x :: xs, s => (f x s).bind fun
    | .nx s' => forC f xs s'
    | .bk s' => some (.nx s')
    | .rt r => some (.rt r)
def forS {α S : Type} (f : α → S → Option S) : List α → S → Option S
  | [], s => some s
  | x :: xs, s => (f x s).bind (forS f xs)
def whC {S R : Type} (t : S → Option Bool) (f : S → Option (Ctl S R)) : Nat → S → Option (Ctl S R)
  | 0, _ => none
  | n + 1, s => (t s).bind fun b => if b then (f s).bind fun
      | .nx s' => whC t f n s'
      | .bk s' => some (.nx s')
      | .rt r => some (.rt r)
    else some (.nx s)
def whS {S : Type} (t : S → Option Bool) (f : S → Option S) : Nat → S → Option S
  | 0, _ => none
  | n + 1, s => (t s).bind fun b => if b then (f s).bind (whS t f n) else some s
theorem forS_C {α S R : Type} (f : α → S → Option S) : ∀ (xs : List α) (s : S), forC (R := R) (fun x s => (f x s).map Ctl.nx) xs s = (forS f xs s).map Ctl.nx
  | [], s => rfl
  | x :: xs, s => by
    unfold forC forS
    cases h : f x s with
    | none => rfl
    | some s' => exact forS_C f xs s'
theorem whS_C {S R : Type} (t : S → Option Bool) (f : S → Option S) : ∀ (n : Nat) (s : S), whC (R := R) t (fun s => (f s).map Ctl.nx) n s = (whS t f n s).map Ctl.nx
  | 0, s => rfl
  | n + 1, s => by
    unfold whC whS
    cases h : t s with
    | none => rfl
    | some b =>
      cases b with
      | false => rfl
      | true =>
        show ((f s).map Ctl.nx).bind _ = ((f s).bind (whS t f n)).map Ctl.nx
        cases h2 : f s with
        | none => rfl
        | some s' => exact whS_C t f n s'
theorem bnd {α β : Type} {m : Option α} {f : α → Option β} {r : β} (h : m.bind f = some r) : ∃ a, m = some a ∧ f a = some r := by
  cases m with
  | none => cases h
  | some a => exact ⟨a, rfl, h⟩
/-- a turn's end: on to s', out to s', or the def's return r -/
def TurnP {S R : Type} (Fρ : S → En) (Fω : S → Sto) (PR : R → OP) : Ctl S R → OP
  | .nx s => fun o => ∃ ρ1 ω1, (o = .nx ρ1 ω1 ∨ o = .ct ρ1 ω1) ∧ Wk ρ1 (Fρ s) ∧ Pk ω1 (Fω s)
  | .bk s => fun o => ∃ ρ1 ω1, o = .bk ρ1 ω1 ∧ Wk ρ1 (Fρ s) ∧ Pk ω1 (Fω s)
  | .rt r => fun o => PR r o ∧ ((∃ d ω, o = .rt d ω) ∨ ∃ f m, o = .ex f m)
section
variable {X : Cx} {ρ : En} {ω ω1 : Sto} {tg iter c : Expr} {pos : Pos} {P : OP} {rest body : List Stmt} {α S R : Type}
theorem dss_for (t : Tg) (xs : List α) (cd : α → D) (Fρ : S → En) (Fω : S → Sto) (PR : R → OP) (f : α → S → Option (Ctl S R)) (s0 : S) {r : Ctl S R} (hr : forC f xs s0 = some r)
    (I : DI X tg iter ρ ω (xs.map cd) ω1) (hg : PG X tg (t.g X.K)) (hw : Wk ρ (Fρ s0)) (hp : Pk ω1 (Fω s0)) (hf : ∀ x, t.fits (cd x) = true)
    (hb : ∀ x s k, x ∈ xs → f x s = some k → DSs X body (t.bind (cd x) (Fρ s)) (Fω s) (TurnP Fρ Fω PR k))
    (hn : ∀ s, r = .nx s → DSs X rest (Fρ s) (Fω s) P) (hret : ∀ v, r = .rt v → ∀ o, PR v o → P o) (hbk : ∀ s, r ≠ .bk s)
    (hp2 : PassesOwn (model X.prog X.w) X.A X.env X.xe) (hc : X.calm = true := by rfl) (hs : ∀ x, foldedSetIterable iter X.env x = pure x := by intro _; rfl) : DSs X (.For tg iter body [] pos :: rest) ρ ω P := by
  have hbody : PSs X body (fun E σ H => ∃ (i : { y : α × S × Ctl S R // y.1 ∈ xs ∧ f y.1 y.2.1 = some y.2.2 }), tsD (t.bind (cd i.1.1) (Fρ i.1.2.1)) (Fω i.1.2.1) (TurnP Fρ Fω PR i.1.2.2) E σ H) := pss_any fun i => hb i.1.1 i.1.2.1 i.1.2.2 i.2.1 i.2.2
  have hrest : PSs X rest (fun E σ H => ∃ i : { s : S // r = .nx s }, tsD (Fρ i.1) (Fω i.1) P E σ H) := pss_any fun i => hn i.1 i.2
  refine pss_mono (pss_cons (ps_for hp2 hc I hg hbody hs) hrest) ?_
  rintro E σ H ⟨Z, HF, Sk, q⟩
  refine ⟨Z, HF, Sk, fun J HF1 H1 e1 S1 ⟨hz, ok⟩ => ?_⟩
  have ex : ∀ (i : Nat) x, xs[i]? = some x → xs.drop i = x :: xs.drop (i + 1) := fun i x h => by
    obtain ⟨hl, he⟩ := List.getElem?_eq_some_iff.mp h
    rw [List.drop_eq_getElem_cons hl, he]
  refine ⟨fun i m σ' H' => m = xs.length - i ∧ i ≤ xs.length ∧ ∃ s HF', forC f (xs.drop i) s = some r ∧ Same HF1 HF' ∧ SK Z HF' H' σ' (Fρ s) (Fω s), ⟨xs.length, rfl, Nat.zero_le _, s0, HF1, hr, Same.refl _, hp.sk (S1.weak hw)⟩, ?_⟩
  rintro i m σ' H' ⟨rfl, hi, s, HF', hrs, e', S'⟩
  obtain ⟨o1, o2⟩ := ok HF' H' e' S'.fh i
  by_cases hlt : i < xs.length
  · right
    have hx : xs[i]? = some xs[i] := List.getElem?_eq_getElem hlt
    obtain ⟨g1, g2⟩ := o2 (cd xs[i]) (by rw [List.getElem?_map, hx]; rfl)
    rw [ex i _ hx] at hrs
    obtain ⟨k, hk, hrs⟩ := bnd hrs
    refine ⟨g1, fun σ2 H2 => ∃ s2 HF2, k = .nx s2 ∧ Same HF' HF2 ∧ SK Z HF2 H2 σ2 (Fρ s2) (Fω s2), ?_, fun x H3 hy => ?_⟩
    · rintro σ2 H2 ⟨s2, HF2, rfl, e2, S2⟩
      exact ⟨xs.length - (i + 1), by omega, rfl, hlt, s2, HF2, hrs, e'.trans e2, S2⟩
    · have run : ∀ HF3 H4, Same HF' HF3 → SK Z HF3 H4 σ' (Fρ s) (Fω s) → RD HF3 (cd xs[i]) x → t.g X.K x σ' H4 fun σ2 H2 => ∃ (i : { y : α × S × Ctl S R // y.1 ∈ xs ∧ f y.1 y.2.1 = some y.2.2 }), tsD (t.bind (cd i.1.1) (Fρ i.1.2.1)) (Fω i.1.2.1) (TurnP Fρ Fω PR i.1.2.2)
          { nx := fun σ2 H2 => ∃ s2 HF2, k = .nx s2 ∧ Same HF' HF2 ∧ SK Z HF2 H2 σ2 (Fρ s2) (Fω s2), rt := E.rt, bk := fun σ' H' => ∃ i : { s : S // r = .nx s }, tsD (Fρ i.1) (Fω i.1) P E σ' H', ct := fun σ2 H2 => ∃ s2 HF2, k = .nx s2 ∧ Same HF' HF2 ∧ SK Z HF2 H2 σ2 (Fρ s2) (Fω s2) } σ2 H2 := fun HF3 H4 e3 S3 r3 =>
        Tg.run (vs0 := []) (hf _) S3 r3 fun σ2 S4 _ => ⟨⟨(xs[i], s, k), List.mem_of_getElem? hx, hk⟩, Z, HF3, S4, fun o po => by
          cases k with
          | nx s2 =>
            obtain ⟨ρ1, ω2, ho, w1, p1⟩ := po
            rcases ho with rfl | rfl
            · exact fun σ5 HF5 H5 e5 S5 => ⟨s2, HF5, rfl, e3.trans e5, p1.sk (S5.weak w1)⟩
            · exact fun σ5 HF5 H5 e5 S5 => ⟨s2, HF5, rfl, e3.trans e5, p1.sk (S5.weak w1)⟩
          | bk s2 =>
            obtain ⟨ρ1, ω2, rfl, w1, p1⟩ := po
            have er : r = .nx s2 := (Option.some.inj hrs).symm
            exact fun σ5 HF5 H5 e5 S5 => ⟨⟨s2, er⟩, Z, HF5, p1.sk (S5.weak w1), fun o p => (q o p).mono (((e1.trans e').trans e3).trans e5)⟩
          | rt v =>
            obtain ⟨p1, ho⟩ := po
            have er : r = .rt v := (Option.some.inj hrs).symm
            rcases ho with ⟨d, ω2, rfl⟩ | ⟨f', m', rfl⟩
            · exact (q _ (hret v er _ p1)).mono ((e1.trans e').trans e3)
            · exact (q _ (hret v er _ p1)).mono ((e1.trans e').trans e3)⟩
      rcases g2 x H3 hy with ⟨rfl, r3⟩ | ⟨p, o, hp3, rfl, r3⟩
      · exact run HF' H3 (Same.refl _) S' r3
      · obtain ⟨S3, e3⟩ := S'.newF o hp3
        exact run _ _ e3 S3 r3
  · left
    have ei : i = xs.length := by omega
    subst ei
    rw [List.drop_length] at hrs
    have er : r = .nx s := (Option.some.inj hrs).symm
    exact ⟨o1 (by rw [List.length_map]), ⟨s, er⟩, Z, HF', S', fun o p => (q o p).mono (e1.trans e')⟩
/-- a loop that no turn leaves -/
theorem dss_forS (t : Tg) (xs : List α) (cd : α → D) (Fρ : S → En) (Fω : S → Sto) (f : α → S → Option S) (s0 s1 : S) (hr : forS f xs s0 = some s1)
    (I : DI X tg iter ρ ω (xs.map cd) ω1) (hg : PG X tg (t.g X.K)) (hw : Wk ρ (Fρ s0)) (hp : Pk ω1 (Fω s0)) (hf : ∀ x, t.fits (cd x) = true)
    (hb : ∀ x s k, x ∈ xs → f x s = some k → DSs X body (t.bind (cd x) (Fρ s)) (Fω s) (TurnP (R := Empty) Fρ Fω (fun _ _ => False) (.nx k)))
    (hn : DSs X rest (Fρ s1) (Fω s1) P)
    (hp2 : PassesOwn (model X.prog X.w) X.A X.env X.xe) (hc : X.calm = true := by rfl) (hs : ∀ x, foldedSetIterable iter X.env x = pure x := by intro _; rfl) : DSs X (.For tg iter body [] pos :: rest) ρ ω P :=
  dss_for (R := Empty) t xs cd Fρ Fω (fun _ _ => False) (fun x s => (f x s).map Ctl.nx) s0 (r := .nx s1) (by rw [forS_C, hr]; rfl) I hg hw hp hf (fun x s k hx hk => by
    cases h : f x s with
    | none => rw [h] at hk; cases hk
    | some s' =>
      rw [h] at hk
      cases (Option.some.inj hk)
      exact hb x s s' hx h) (fun s h => by cases h; exact hn) (fun v => v.elim) (fun s h => nomatch h) hp2 hc hs
theorem dss_while (n : Nat) (Fρ : S → En) (Fω : S → Sto) (PR : R → OP) (t : S → Option Bool) (f : S → Option (Ctl S R)) (s0 : S) {r : Ctl S R} (hr : whC t f n s0 = some r)
    (hw : Wk ρ (Fρ s0)) (hp : Pk ω (Fω s0)) (hc : ∀ s b, t s = some b → DT X c (Fρ s) (Fω s) b (Fω s))
    (hb : ∀ s k, t s = some true → f s = some k → DSs X body (Fρ s) (Fω s) (TurnP Fρ Fω PR k))
    (hn : ∀ s, r = .nx s → DSs X rest (Fρ s) (Fω s) P) (hret : ∀ v, r = .rt v → ∀ o, PR v o → P o)
    (hp2 : PassesOwn (model X.prog X.w) X.A X.env X.xe) : DSs X (.While c body [] pos :: rest) ρ ω P := by
  have hbody : PSs X body (fun E σ H => ∃ (i : { y : S × Ctl S R // t y.1 = some true ∧ f y.1 = some y.2 }), tsD (Fρ i.1.1) (Fω i.1.1) (TurnP Fρ Fω PR i.1.2) E σ H) := pss_any fun i => hb i.1.1 i.1.2 i.2.1 i.2.2
  have hrest : PSs X rest (fun E σ H => ∃ i : { s : S // r = .nx s }, tsD (Fρ i.1) (Fω i.1) P E σ H) := pss_any fun i => hn i.1 i.2
  have htest : PT X c (fun σ H Q => ∃ (i : { y : S × Bool // t y.1 = some y.2 }), ttD (Fρ i.1.1) (Fω i.1.1) i.1.2 (Fω i.1.1) σ H Q) := ⟨fun pins s σ H Q I ⟨i, hw⟩ => (hc i.1.1 i.1.2 i.2).run pins s σ H Q I hw⟩
  refine pss_mono (pss_cons (ps_while hp2 htest hbody) hrest) ?_
  rintro E σ H ⟨Z, HF, Sk, q⟩
  refine ⟨fun m σ' H' => ∃ s HF', whC t f m s = some r ∧ Same HF HF' ∧ SK Z HF' H' σ' (Fρ s) (Fω s), ⟨n, s0, HF, hr, Same.refl _, hp.sk (Sk.weak hw)⟩, ?_⟩
  rintro m σ' H' ⟨s, HF', hrs, e', S'⟩
  cases m with
  | zero => cases hrs
  | succ m =>
    obtain ⟨b, hb', hrs⟩ := bnd hrs
    refine ⟨⟨(s, b), hb'⟩, Z, HF', S', fun HF2 H2 e2 S2 => ?_⟩
    cases b with
    | false =>
      have er : r = .nx s := (Option.some.inj hrs).symm
      exact ⟨⟨s, er⟩, Z, HF2, S2, fun o p => (q o p).mono (e'.trans e2)⟩
    | true =>
      obtain ⟨k, hk, hrs⟩ := bnd (show (f s).bind _ = some r from hrs)
      refine ⟨fun σ3 H3 => ∃ s2 HF3, k = .nx s2 ∧ Same HF2 HF3 ∧ SK Z HF3 H3 σ3 (Fρ s2) (Fω s2), ?_, ⟨(s, k), hb', hk⟩, Z, HF2, S2, fun o po => ?_⟩
      · rintro σ3 H3 ⟨s2, HF3, rfl, e3, S3⟩
        exact ⟨m, Nat.lt_succ_self m, s2, HF3, hrs, (e'.trans e2).trans e3, S3⟩
      · cases k with
        | nx s2 =>
          obtain ⟨ρ1, ω2, ho, w1, p1⟩ := po
          rcases ho with rfl | rfl
          · exact fun σ5 HF5 H5 e5 S5 => ⟨s2, HF5, rfl, e5, p1.sk (S5.weak w1)⟩
          · exact fun σ5 HF5 H5 e5 S5 => ⟨s2, HF5, rfl, e5, p1.sk (S5.weak w1)⟩
        | bk s2 =>
          obtain ⟨ρ1, ω2, rfl, w1, p1⟩ := po
          have er : r = .nx s2 := (Option.some.inj hrs).symm
          exact fun σ5 HF5 H5 e5 S5 => ⟨⟨s2, er⟩, Z, HF5, p1.sk (S5.weak w1), fun o p => (q o p).mono ((e'.trans e2).trans e5)⟩
        | rt v =>
          obtain ⟨p1, ho⟩ := po
          have er : r = .rt v := (Option.some.inj hrs).symm
          rcases ho with ⟨d, ω2, rfl⟩ | ⟨f', m', rfl⟩
          · exact (q _ (hret v er _ p1)).mono (e'.trans e2)
          · exact (q _ (hret v er _ p1)).mono (e'.trans e2)
theorem dss_whileS (n : Nat) (Fρ : S → En) (Fω : S → Sto) (t : S → Option Bool) (f : S → Option S) (s0 s1 : S) (hr : whS t f n s0 = some s1)
    (hw : Wk ρ (Fρ s0)) (hp : Pk ω (Fω s0)) (hc : ∀ s b, t s = some b → DT X c (Fρ s) (Fω s) b (Fω s))
    (hb : ∀ s k, t s = some true → f s = some k → DSs X body (Fρ s) (Fω s) (TurnP (R := Empty) Fρ Fω (fun _ _ => False) (.nx k)))
    (hn : DSs X rest (Fρ s1) (Fω s1) P)
    (hp2 : PassesOwn (model X.prog X.w) X.A X.env X.xe) : DSs X (.While c body [] pos :: rest) ρ ω P :=
  dss_while (R := Empty) n Fρ Fω (fun _ _ => False) t (fun s => (f s).map Ctl.nx) s0 (r := .nx s1) (by rw [whS_C, hr]; rfl) hw hp hc (fun s k ht hk => by
    cases h : f s with
    | none => rw [h] at hk; cases hk
    | some s' =>
      rw [h] at hk
      cases (Option.some.inj hk)
      exact hb s s' ht h) (fun s h => by cases h; exact hn) (fun v => v.elim) hp2
end
end Q
end

section
set_option Elab.async false
set_option linter.all false
set_option maxRecDepth 100000
set_option maxHeartbeats 1000000
/-! LAYER 4: comprehensions, calls of one's own defs, texts' methods, lists put together. -/
namespace Q
open PySem L2 TL

/-! ### comprehensions -/
def wipeE (ρ : En) : List Nat → En
  | [] => ρ
  | v :: vs => (wipeE ρ vs).set v none
theorem wipe_get (σ : L2.St) : ∀ (vs : List Nat) (k : Nat), (wipe σ vs)[k]? = if k ∈ vs then (if k < σ.length then some none else none) else σ[k]? := by
  intro vs
  induction vs with
  | nil => intro k; rfl
  | cons v vs ih =>
    intro k
    unfold wipe
    by_cases hk : v = k
    · subst hk
      rw [if_pos List.mem_cons_self]
      by_cases hl : v < σ.length
      · rw [if_pos hl, List.getElem?_set_self (by rw [wipe_length]; exact hl)]
      · rw [if_neg hl, List.getElem?_eq_none (by rw [List.length_set, wipe_length]; omega)]
    · rw [List.getElem?_set_ne hk, ih k]
      have : (k ∈ v :: vs) ↔ k ∈ vs := by rw [List.mem_cons]; exact ⟨fun z => z.elim (fun z => absurd z.symm hk) id, .inr⟩
      simp only [this]
theorem wipeE_len (ρ : En) : ∀ vs, (wipeE ρ vs).length = ρ.length
  | [] => rfl
  | v :: vs => by unfold wipeE; rw [List.length_set, wipeE_len ρ vs]
theorem wipeE_get (ρ : En) : ∀ (vs : List Nat) (k : Nat) (d : D), (wipeE ρ vs)[k]? = some (some d) → k ∉ vs ∧ ρ[k]? = some (some d) := by
  intro vs
  induction vs with
  | nil => intro k d h; exact ⟨by simp, h⟩
  | cons v vs ih =>
    intro k d h
    unfold wipeE at h
    by_cases hk : v = k
    · subst hk
      rw [List.getElem?_set] at h
      rw [if_pos rfl] at h
      split at h <;> cases h
    · rw [List.getElem?_set_ne hk] at h
      obtain ⟨h1, h2⟩ := ih k d h
      exact ⟨fun z => (List.mem_cons.mp z).elim (fun z => hk z.symm) h1, h2⟩
theorem wipe_idem (σ : L2.St) (vs : List Nat) : wipe (wipe σ vs) vs = wipe σ vs := by
  apply List.ext_getElem?
  intro k
  rw [wipe_get, wipe_get]
  by_cases hk : k ∈ vs
  · rw [if_pos hk, if_pos hk, wipe_length]
  · rw [if_neg hk, if_neg hk]
theorem SK.wipe {Z : Zone} {HF H : Hp} {σ : L2.St} {ρ : En} {ω : Sto} (S : SK Z HF H σ ρ ω) (vs : List Nat) : SK Z HF H (L2.wipe σ vs) (wipeE ρ vs) ω :=
  S.env (by rw [wipe_length, wipeE_len]; exact S.ln) fun i d h => by
    obtain ⟨h1, h2⟩ := wipeE_get ρ vs i d h
    obtain ⟨v, q1, q2⟩ := S.sl i d h2
    exact ⟨v, by rw [wipe_get, if_neg h1]; exact q1, q2⟩
def compO {α S β : Type} (t : α → S → Option Bool) (f : α → S → Option (β × S)) : List α → S → Option (List β × S)
  | [], s => some ([], s)
  | x :: xs, s => (t x s).bind fun b => if b then (f x s).bind fun y => (compO t f xs y.2).bind fun l => some (y.1 :: l.1, l.2) else compO t f xs s
abbrev DTs (X : Cx) (ifs : List Expr) (ρ : En) (ω : Sto) (b : Bool) (ω' : Sto) : Prop := PTs X ifs (ttD ρ ω b ω')
section
variable {X : Cx} {ρ : En} {ω ω1 ω2 : Sto} {tg iter elt c : Expr} {ifs : List Expr} {scope : Scope} {pos : Pos} {α S β : Type}
theorem pts_mono {t t' : TT} (h : PTs X ifs t) (i : ∀ σ H Q, t' σ H Q → t σ H Q) : PTs X ifs t' := ⟨fun pins s σ H Q I hw => h.run pins s σ H Q I (i _ _ _ hw)⟩
theorem dts_nil : DTs X [] ρ ω true ω := pts_mono pts_nil fun σ H Q ⟨Z, HF, S, q⟩ => q HF H (Same.refl _) S
theorem dts_one {b : Bool} (T : DT X c ρ ω b ω1) : DTs X [c] ρ ω b ω1 := pts_one T
theorem cell_last {ω : Sto} {p : Addr × Cell} : (ω ++ [p])[ω.length]? = some p := by rw [List.getElem?_append_right (Nat.le_refl _), Nat.sub_self]; rfl
theorem set_last {ω : Sto} {p q : Addr × Cell} : (ω ++ [p]).set ω.length q = ω ++ [q] := by rw [List.set_append_right _ _ (Nat.le_refl _), Nat.sub_self]; rfl
/-- a list comprehension's parts, and what its reading asks -/
def CompD (X : Cx) (elt tg iter : Expr) (ifs : List Expr) (scope : Scope) (ρ : En) (ω : Sto) (c : Cell) (ω' : Sto) : Prop :=
  ∃ (wi : TI) (g : TG) (tt : TT) (te : TE) (own : List (Str × Nat)), PI X tg iter wi ∧ BlkOk X.N X.env.scope scope own ∧
    (∀ (s : Shared) (H : Hp) (C : Addr) (cl : List (Str × Addr)) (fp : List Addr), PG (X.blk s H scope (compEnvC scope cl C X.env) fp) tg g) ∧
    (∀ (s : Shared) (H : Hp) (C : Addr) (cl : List (Str × Addr)) (fp : List Addr), PTs (X.blk s H scope (compEnvC scope cl C X.env) fp) ifs tt) ∧
    (∀ (s : Shared) (H : Hp) (C : Addr) (cl : List (Str × Addr)) (fp : List Addr), PE (X.blk s H scope (compEnvC scope cl C X.env) fp) elt te) ∧
    (∀ x, foldedSetIterable iter X.env x = pure x) ∧ ∀ σ H Q, teN ρ ω c ω' σ H Q → tLc wi g tt te (own.map (·.2)) σ H Q
theorem comp_d (own : List (Str × Nat)) (t : Tg) (xs : List α) (cd : α → D) (Fω : S → Sto) (tst : α → S → Option Bool) (el : α → S → Option (β × S)) (cy : β → PyData) (s0 : S) {r : List β × S} (hr : compO tst el xs s0 = some r)
    (I : DI X tg iter ρ ω (xs.map cd) ω1) (hp : Pk ω1 (Fω s0)) (ok : BlkOk X.N X.env.scope scope own)
    (hg : ∀ (s : Shared) (H : Hp) (C : Addr) (cl : List (Str × Addr)) (fp : List Addr), PG (X.blk s H scope (compEnvC scope cl C X.env) fp) tg (t.g X.K))
    (hts : ∀ i ∈ t.slots, i ∈ own.map (·.2)) (hf : ∀ x, t.fits (cd x) = true)
    (ht : ∀ x st b, x ∈ xs → tst x st = some b → ∀ (s : Shared) (H : Hp) (C : Addr) (cl : List (Str × Addr)) (fp : List Addr), DTs (X.blk s H scope (compEnvC scope cl C X.env) fp) ifs (t.bind (cd x) (wipeE ρ (own.map (·.2)))) (Fω st) b (Fω st))
    (he : ∀ x st y, x ∈ xs → tst x st = some true → el x st = some y → ∀ (s : Shared) (H : Hp) (C : Addr) (cl : List (Str × Addr)) (fp : List Addr), DE (X.blk s H scope (compEnvC scope cl C X.env) fp) elt (t.bind (cd x) (wipeE ρ (own.map (·.2)))) (Fω st) (.v (cy y.1)) (Fω y.2))
    (hs : ∀ x, foldedSetIterable iter X.env x = pure x := by intro _; rfl) :
    CompD X elt tg iter ifs scope ρ ω (.lst (r.1.map cy)) (Fω r.2) := by
  let vs := own.map (·.2)
  have htt : ∀ (s : Shared) (H : Hp) (C : Addr) (cl : List (Str × Addr)) (fp : List Addr), PTs (X.blk s H scope (compEnvC scope cl C X.env) fp) ifs (fun σ H Q => ∃ (i : { y : α × S × Bool // y.1 ∈ xs ∧ tst y.1 y.2.1 = some y.2.2 }), ttD (t.bind (cd i.1.1) (wipeE ρ vs)) (Fω i.1.2.1) i.1.2.2 (Fω i.1.2.1) σ H Q) :=
    fun s H C cl fp => ⟨fun pins s' σ H' Q I' ⟨i, hw⟩ => (ht i.1.1 i.1.2.1 i.1.2.2 i.2.1 i.2.2 s H C cl fp).run pins s' σ H' Q I' hw⟩
  have hte : ∀ (s : Shared) (H : Hp) (C : Addr) (cl : List (Str × Addr)) (fp : List Addr), PE (X.blk s H scope (compEnvC scope cl C X.env) fp) elt (fun σ H Q => ∃ (i : { y : α × S × (β × S) // y.1 ∈ xs ∧ tst y.1 y.2.1 = some true ∧ el y.1 y.2.1 = some y.2.2 }), teD (t.bind (cd i.1.1) (wipeE ρ vs)) (Fω i.1.2.1) (.v (cy i.1.2.2.1)) (Fω i.1.2.2.2) σ H Q) :=
    fun s H C cl fp => ⟨fun pins s' σ H' Q I' ⟨i, hw⟩ => (he i.1.1 i.1.2.1 i.1.2.2 i.2.1 i.2.2.1 i.2.2.2 s H C cl fp).run pins s' σ H' Q I' hw⟩
  refine ⟨_, _, _, _, own, I, ok, hg, htt, hte, hs, ?_⟩
  rintro σ H Q ⟨Z, HF, Sk, q⟩
  refine ⟨Z, HF, Sk, fun J HF1 H1 e1 S1 ⟨hz, ok⟩ Dl hD => ?_⟩
  rw [List.length_map] at hz
  have S2 : SK Z HF1 (upd H1 Dl (.lst [])) σ ρ (Fω s0 ++ [(Dl, .lst [])]) := (hp.sk S1).newC hD (cell_lst (Nat.zero_le _) rfl)
  have ex : ∀ (i : Nat) x, xs[i]? = some x → xs.drop i = x :: xs.drop (i + 1) := fun i x h => by
    obtain ⟨hl, he⟩ := List.getElem?_eq_some_iff.mp h
    rw [List.drop_eq_getElem_cons hl, he]
  have olen : ∀ (xs : List α) (s : S) (r : List β × S), compO tst el xs s = some r → r.1.length ≤ xs.length := by
    intro xs
    induction xs with
    | nil => intro s r h; cases h; exact Nat.le_refl _
    | cons x xs ih =>
      intro s r h
      obtain ⟨b, _, h⟩ := bnd h
      cases b with
      | true =>
        obtain ⟨y, _, h⟩ := bnd (show (el x s).bind _ = some r from h)
        obtain ⟨l, h1, h⟩ := bnd h
        cases h
        exact Nat.succ_le_succ (ih _ _ h1)
      | false => exact Nat.le_succ_of_le (ih _ _ h)
  refine ⟨fun i m H' => m = xs.length - i ∧ i ≤ xs.length ∧ ∃ st acc l HF', compO tst el (xs.drop i) st = some (l, r.2) ∧ acc ++ l = r.1 ∧ Same HF1 HF' ∧ SK Z HF' H' σ ρ (Fω st ++ [(Dl, .lst (acc.map cy))]),
    ⟨xs.length, rfl, Nat.zero_le _, s0, [], r.1, HF1, hr, rfl, Same.refl _, S2⟩, ?_⟩
  rintro i m H' ⟨rfl, hi, st, acc, l, HF', hrs, ha, e', S'⟩
  obtain ⟨o1, o2⟩ := ok HF' H' e' S'.fh i
  by_cases hlt : i < xs.length
  · right
    have hx : xs[i]? = some xs[i] := List.getElem?_eq_getElem hlt
    obtain ⟨g1, g2⟩ := o2 (cd xs[i]) (by rw [List.getElem?_map, hx]; rfl)
    have hmem : xs[i] ∈ xs := List.mem_of_getElem? hx
    rw [ex i _ hx] at hrs
    obtain ⟨b, hb, hrs⟩ := bnd hrs
    refine ⟨g1, fun H2 => ∃ st2 acc2 l2 HF2, compO tst el (xs.drop (i + 1)) st2 = some (l2, r.2) ∧ acc2 ++ l2 = r.1 ∧ Same HF' HF2 ∧ SK Z HF2 H2 σ ρ (Fω st2 ++ [(Dl, .lst (acc2.map cy))]), ?_, fun x H3 hy => ?_⟩
    · rintro H2 ⟨st2, acc2, l2, HF2, h1, h2, h3, h4⟩
      exact ⟨xs.length - (i + 1), by omega, rfl, hlt, st2, acc2, l2, HF2, h1, h2, e'.trans h3, h4⟩
    · obtain ⟨HF3, e3, S3, r3⟩ : ∃ HF3, Same HF' HF3 ∧ SK Z HF3 H3 σ ρ (Fω st ++ [(Dl, .lst (acc.map cy))]) ∧ RD HF3 (cd xs[i]) x := by
        rcases g2 x H3 hy with ⟨rfl, r3⟩ | ⟨p, o, hp3, rfl, r3⟩
        · exact ⟨HF', Same.refl _, S', r3⟩
        · obtain ⟨S3, e3⟩ := S'.newF o hp3
          exact ⟨_, e3, S3, r3⟩
      obtain ⟨Z', Sp, back⟩ := S3.sub
      refine Tg.run (vs0 := vs) (hf _) (Sp.wipe vs) r3 fun σ2 S4 w => ?_
      refine ⟨(w hts).trans (wipe_idem σ vs), ⟨(xs[i], st, b), hmem, hb⟩, Z', HF3, S4, fun HF5 H5 e5 S5 => ?_⟩
      cases b with
      | true =>
        obtain ⟨y, hy1, hrs⟩ := bnd (show (el xs[i] st).bind _ = some (l, r.2) from hrs)
        obtain ⟨l', hl1, hrs⟩ := bnd hrs
        injection (Option.some.inj hrs) with k1 k2
        rw [if_pos rfl]
        refine ⟨⟨(xs[i], st, y), hmem, hb, hy1⟩, Z', HF5, S5, fun v HF6 H6 e6 S6 r6 => ?_⟩
        have S7 := back HF6 H6 σ2 _ (Fω y.2) (e5.trans e6) S6
        obtain ⟨fp, rfl, us, u1, u2, u3⟩ := S7.cell cell_last
        have hlen : us.length < sizeLine := by
          have h1 := olen xs s0 r hr
          rw [← ha, List.length_append, ← k1, List.length_cons] at h1
          rw [u3.length, List.length_map]
          omega
        refine ⟨us, u1, hlen, y.2, acc ++ [y.1], l'.1, HF6, by rw [hl1, ← k2], by rw [List.append_assoc, ← ha, ← k1]; rfl, (e3.trans e5).trans e6, ?_⟩
        refine S'.back ((e3.trans e5).trans e6) (σ' := σ2) (ρ' := t.bind (cd xs[i]) (wipeE ρ vs)) ?_
        have S8 := S7.wrote (c' := .lst ((acc ++ [y.1]).map cy)) (H' := upd H6 Dl (.lst (us ++ [v]))) cell_last fun fp c nd => by
          obtain ⟨rfl, us', c1, c2, c3⟩ := c
          rw [u1] at c1; cases c1
          refine ⟨[Dl], ⟨rfl, us ++ [v], upd_same, by rw [List.length_append]; exact hlen, ?_⟩, by simp, fun b hb => .inl hb, fun b n _ => upd_ne fun z => n (by rw [z]; exact List.mem_singleton.mpr rfl)⟩
          rw [List.map_append]
          exact c3.append (Rps.one r6)
        rw [set_last] at S8
        exact S8
      | false =>
        refine iteF ?_
        exact ⟨st, acc, l, HF5, hrs, ha, e3.trans e5, S'.back (e3.trans e5) (back HF5 H5 σ2 _ (Fω st) e5 S5)⟩
  · left
    have ei : i = xs.length := by omega
    subst ei
    rw [List.drop_length] at hrs
    injection (Option.some.inj hrs) with k1 k2
    rw [← k1, List.append_nil] at ha
    rw [k2] at S'
    refine ⟨o1 (by rw [List.length_map]), q Dl HF' H' (e1.trans e') ?_⟩
    rw [← ha]
    exact S'
theorem dn_of {cc : Cell} (C : CompD X elt tg iter ifs scope ρ ω cc ω1) (hN : X.N.Nodup := by assumption) (hc : X.calm = true := by rfl) : DN X (.ListComp elt [⟨tg, iter, ifs, 0⟩] scope pos) ρ ω cc ω1 := by
  obtain ⟨wi, g, tt, te, own, I, ok, hg, ht, he, hs, h⟩ := C
  exact pe_mono (pe_lc hc hN I ok hg ht he hs) h
/-- x = [..] on one line, x a plain local name -/
theorem dss_setLC (i : Nat) {x : Str} {px spos : Pos} {ρ' : En} {ps : List PyData} {P : OP} {rest : List Stmt} {d : D} (C : CompD X elt tg iter ifs scope ρ ω (.lst ps) ω1) (B : DSs X rest ρ' ω1 P) (hd : .v (.list ps) = d := by rfl) (hρ : ρ.set i (some d) = ρ' := by rfl) (hi : X.N[i]? = some x := by rfl) (hN : X.N.Nodup := by assumption) (hx : X.env.scope.names.lookup x = some .local := by rfl)
    (hs2 : swapsWith (.ListComp elt [⟨tg, iter, ifs, 0⟩] scope pos) (some (.Name x px)) spos.line X.env = pure true := by exact sw_true rfl rfl rfl (by decide +kernel)) (hc : X.calm = true := by rfl) : DSs X (.Assign [.Name x px] (.ListComp elt [⟨tg, iter, ifs, 0⟩] scope pos) spos :: rest) ρ ω P := by
  obtain ⟨wi, g, tt, te, own, I, ok, hg, ht, he, hs, h⟩ := C
  refine dss_step (ps_setLc hc hN hi hx hs2 I ok hg ht he hs) B fun E σ H Z HF S q => h σ H _ ⟨Z, HF, S, fun p HF1 H1 e1 S1 => ?_⟩
  obtain ⟨HF2, e2, S2, r2⟩ := S1.freezeL
  subst hd
  exact q _ HF2 H1 (e1.trans e2) (hρ ▸ S2.set i (d := .v (.list ps)) r2)
theorem dss_setNLC (i : Nat) {x : Str} {px spos : Pos} {cc : Cell} {P : OP} {rest : List Stmt} (C : CompD X elt tg iter ifs scope ρ ω cc ω1) (B : ∀ p, DSs X rest (ρ.set i (some (.adr p))) (ω1 ++ [(p, cc)]) P) (hi : X.N[i]? = some x := by rfl) (hN : X.N.Nodup := by assumption) (hx : X.env.scope.names.lookup x = some .local := by rfl)
    (hs2 : swapsWith (.ListComp elt [⟨tg, iter, ifs, 0⟩] scope pos) (some (.Name x px)) spos.line X.env = pure true := by exact sw_true rfl rfl rfl (by decide +kernel)) (hc : X.calm = true := by rfl) : DSs X (.Assign [.Name x px] (.ListComp elt [⟨tg, iter, ifs, 0⟩] scope pos) spos :: rest) ρ ω P := by
  obtain ⟨wi, g, tt, te, own, I, ok, hg, ht, he, hs, h⟩ := C
  exact pss_mono (pss_cons (ps_setLc hc hN hi hx hs2 I ok hg ht he hs) (pss_any B)) fun E σ H ⟨Z, HF, S, q⟩ => h σ H (fun x H1 => ∃ p, tsD (ρ.set i (some (.adr p))) (ω1 ++ [(p, cc)]) P E (σ.set i (some x)) H1) ⟨Z, HF, S, fun p HF1 H1 e1 S1 => ⟨p, Z, HF1, S1.set i (d := .adr p) rfl, fun o po => (q o po).mono e1⟩⟩
end

/-! ### calls of one's own defs -/
/-- a promise in data: the arguments ds, the cells handed in ω; what comes out as P says -/
def SpC (R : List D → Sto → (D → Sto → Prop) → Prop) : Sp := fun vs H Q _ => ∃ ds ω P Z HF, R ds ω P ∧ SK Z HF H [] [] ω ∧ RDs HF ds vs ∧ ∀ d ω' v HF' H', P d ω' → Same HF HF' → SK Z HF' H' [] [] ω' → RD HF' d v → Q v H'
/-- a def's promise by a mirror m: of x (with its addresses) -/
def Mir {A T : Type} (m : A → Option T) (ds : A → List D) (ωi : A → Sto) (d : A → T → D) (ωo : A → T → Sto) : List D → Sto → (D → Sto → Prop) → Prop :=
  fun es ω P => ∃ x t, es = ds x ∧ ω = ωi x ∧ m x = some t ∧ P = fun e ω' => e = d x t ∧ ω' = ωo x t
/-- .. that hands back a new cell -/
def MirN {A T : Type} (m : A → Option T) (ds : A → List D) (ωi : A → Sto) (c : A → T → Cell) (ωo : A → T → Sto) : List D → Sto → (D → Sto → Prop) → Prop :=
  fun es ω P => ∃ x t, es = ds x ∧ ω = ωi x ∧ m x = some t ∧ P = fun e ω' => ∃ p, e = .adr p ∧ ω' = ωo x t ++ [(p, c x t)]
def RetP (P : D → Sto → Prop) : OP
  | .rt d ω => P d ω
  | .nx _ ω => P (.v .none) ω
  | _ => False
section
variable {X : Cx} {ρ : En} {ω ω1 ω2 ωp ωp' ωr : Sto} {d : D} {e o : Expr} {es : List Expr} {pos p apos : Pos} {k : Nat} {f C : Addr} {fd : FuncData} {ps : List Str} {x : Str} {ds : List D} {R : List D → Sto → (D → Sto → Prop) → Prop} {P : D → Sto → Prop}
theorem run_call {Z : Zone} {HF H : Hp} {σ : L2.St} {vs : List V} {Q : VK} {E : XK} (S : SK Z HF H σ ρ ω1) (r : RDs HF ds vs) (hR : R ds ωp P) (js : List Nat) (hj : js.map (fun j => ω1[j]?) = (ωp ++ ωr).map some) (hn : js.Nodup)
    (q : ∀ v d' ω' HF' H', P d' ω' → Same HF HF' → SK Z HF' H' σ ρ (ω' ++ ωr) → RD HF' d' v → Q v H') : SpC R vs H Q E := by
  obtain ⟨Z', Sp, back⟩ := (S.pick hj hn).sub
  exact ⟨ds, ωp, P, Z', HF, hR, Sp.noenv, r, fun d' ω' v HF' H' hP e' S' r' => q v d' ω' HF' H' hP e' (S.back e' (back HF' H' [] [] ω' e' S')) r'⟩
/-- f(e, ..), the cells js handed on (in this order), ks: what is told behind -/
theorem de_call (F : FnOk X.prog X.w X.K X.mg X.base CX0 k f fd ps (SpC R)) (hr : Room k X.A) (hm : X.mg x = some (.ref f)) (hk : PySem.W.keepIn X.K (.ref f) = true) (hb : Binds X.K fd ps []) (A : DA X (e :: es) ρ ω ds ω1) (hR : R ds ωp P) (hP : ∀ d' ω', P d' ω' → d' = d ∧ ω' = ωp')
    (js ks : List Nat) (hj : js.map (fun j => ω1[j]?) = (ωp ++ ωr).map some := by rfl) (hn : js.Nodup := by decide) (hk2 : ks.map (fun j => (ωp' ++ ωr)[j]?) = ω2.map some := by rfl) (hn2 : ks.Nodup := by decide)
    (hg : Gl X x := by rfl) (hdb : (x == ("__debug__" : Str)) = false := by decide) (hs : Sg X e es pos := by exact ⟨rfl, rfl⟩) : DE X (.Call (.Name x p) (e :: es) [] pos) ρ ω d ω2 :=
  pe_mono (pe_call F hr hg hm hk hb .nil pass0 A hdb hs.he hs.hpl) fun σ H Q ⟨Z, HF, S, q⟩ => ⟨Z, HF, S, fun vs HF1 H1 e1 S1 r1 => by
    show SpC R (vs ++ []) H1 Q E0
    rw [List.append_nil]
    refine run_call S1 r1 hR js hj hn fun v d' ω' HF' H' hp e' S' r' => ?_
    obtain ⟨rfl, rfl⟩ := hP d' ω' hp
    exact q v HF' H' (e1.trans e') (S'.pick hk2 hn2) r'⟩
/-- f(e, ..) hands back a new cell -/
theorem dn_call {cc : Cell} (F : FnOk X.prog X.w X.K X.mg X.base CX0 k f fd ps (SpC R)) (hr : Room k X.A) (hm : X.mg x = some (.ref f)) (hk : PySem.W.keepIn X.K (.ref f) = true) (hb : Binds X.K fd ps []) (A : DA X (e :: es) ρ ω ds ω1) (hR : R ds ωp P) (hP : ∀ d' ω', P d' ω' → ∃ p, d' = .adr p ∧ ω' = ωp' ++ [(p, cc)])
    (js ks : List Nat) (hj : js.map (fun j => ω1[j]?) = (ωp ++ ωr).map some := by rfl) (hn : js.Nodup := by decide) (hk2 : ∀ p : Addr, ks.map (fun j => ((ωp' ++ [(p, cc)]) ++ ωr)[j]?) = (ω2 ++ [(p, cc)]).map some := by intro _; rfl) (hn2 : ks.Nodup := by decide)
    (hg : Gl X x := by rfl) (hdb : (x == ("__debug__" : Str)) = false := by decide) (hs : Sg X e es pos := by exact ⟨rfl, rfl⟩) : DN X (.Call (.Name x p) (e :: es) [] pos) ρ ω cc ω2 :=
  pe_mono (pe_call F hr hg hm hk hb .nil pass0 A hdb hs.he hs.hpl) fun σ H Q ⟨Z, HF, S, q⟩ => ⟨Z, HF, S, fun vs HF1 H1 e1 S1 r1 => by
    show SpC R (vs ++ []) H1 Q E0
    rw [List.append_nil]
    refine run_call S1 r1 hR js hj hn fun v d' ω' HF' H' hp e' S' r' => ?_
    obtain ⟨p, rfl, rfl⟩ := hP d' ω' hp
    cases (show v = .ref p from r')
    exact q p HF' H' (e1.trans e') (S'.pick (hk2 p) hn2)⟩
end
section
variable {P : Program} {w : World} {K : PySem.W.Frag} {mg : Str → Option Value} {base : Heap}
theorem RDs.lenV {H : Hp} {ds : List D} {vs : List V} (r : RDs H ds vs) : vs.length = ds.length := r.length
/-- THE RULE for a def: its body, in data -/
theorem fn_d {x qual : Str} {st : Stmt} {f : Addr} {fd : FuncData} {N ps : List Str} {k : Nat} {R : List D → Sto → (D → Sto → Prop) → Prop} (F : Fun K x qual st f fd) (Sc : FnScope N ps (defScope st)) (hl : ∀ ds ω P, R ds ω P → ds.length = ps.length) (hNp : ps.length ≤ N.length)
    (body : ∀ (cdv : Value) (A : Around) (outer : List Env) (s : Shared) (H : Hp) (E : XK) (ds : List D) (ω : Sto) (Pr : D → Sto → Prop), Room k (A.deeper (PyProof.Rows.envOfC qual (defScope st) s.heap.objs.size f cdv)) → R ds ω Pr →
      DSs (cxOf CX0 P w K mg base N qual (defScope st) f cdv A outer s H E).nox (defBody st) (ds.map some ++ List.replicate (N.length - ds.length) none) ω (RetP Pr)) : FnOk P w K mg base CX0 (k + 1) f fd ps (SpC R) := by
  refine F.ok Sc (fun vs H Q E h => ?_) (fun cdv A outer s H vs Q E hr h => ?_)
  · obtain ⟨ds, ω, Pr, Z, HF, hR, S, r, _⟩ := h
    rw [r.length, hl _ _ _ hR]
  · obtain ⟨ds, ω, Pr, Z, HF, hR, S, r, q⟩ := h
    refine ⟨_, body cdv A outer s H E ds ω Pr hr hR, Z, HF, S.env (by unfold L2.start; simp [r.length]) fun i d hd => ?_, fun o po => ?_⟩
    · have hi : i < ds.length := by
        by_cases h : i < ds.length
        · exact h
        · rw [List.getElem?_append_right (by simp; omega)] at hd
          rw [List.getElem?_replicate] at hd
          split at hd <;> cases hd
      rw [List.getElem?_append_left (by simp; exact hi), List.getElem?_map, List.getElem?_eq_getElem hi] at hd
      have hd' : ds[i] = d := Option.some.inj (Option.some.inj hd)
      obtain ⟨v, v1, v2⟩ := r.get (List.getElem?_eq_getElem hi)
      refine ⟨v, ?_, hd' ▸ v2⟩
      unfold L2.start
      rw [List.getElem?_append_left (by simp; rw [r.length]; exact hi), List.getElem?_map, v1]
      rfl
    · cases o with
      | nx ρ' ω' => exact fun σ' HF' H' e S' => q _ _ _ HF' H' po e S'.noenv rfl
      | rt d ω' => exact fun v HF' H' e S' r' => q _ _ _ HF' H' po e S' r'
      | bk ρ' ω' => exact po.elim
      | ct ρ' ω' => exact po.elim
      | ex f m => exact po.elim
end

/-! ### texts' methods -/
section
variable {X : Cx} {ρ : En} {ω ω1 ω2 : Sto} {d d1 d2 : D} {a b e : Expr} {pos apos : Pos}
theorem tl_S (w : Wd) : tl (S w) = w := rfl
theorem S_tl (x : Str) : x = S (tl x) := S_of x
theorem rps_words {H : Hp} : ∀ {ws : List Wd} {vs : List V}, Rps H (ws.map cS) vs → vs = (ws.map S).map V.str ∧ ∀ w ∈ ws, okW w = true ∧ w.length ≤ sizeLine
  | [], vs, h => ⟨h, fun _ h => nomatch h⟩
  | w :: ws, vs, h => by
    obtain ⟨v, r, rfl, h1, h2⟩ := h
    obtain ⟨e1, e2, e3⟩ := Rp.word h1
    obtain ⟨g1, g2⟩ := rps_words h2
    refine ⟨by rw [e1, g1]; rfl, fun u hu => ?_⟩
    rcases List.mem_cons.mp hu with rfl | hu
    · exact ⟨e3, e2⟩
    · exact g2 u hu
theorem words_rps {H : Hp} : ∀ {ws : List Wd}, (∀ w ∈ ws, okW w = true ∧ w.length ≤ sizeLine) → Rps H (ws.map cS) ((ws.map S).map V.str)
  | [], _ => rfl
  | w :: ws, h => ⟨_, _, rfl, Rp.ofWord (h w List.mem_cons_self).2 (h w List.mem_cons_self).1, words_rps fun u hu => h u (List.mem_cons_of_mem _ hu)⟩
theorem joinL_ok {a : Wd} : ∀ {ws : List Wd}, okW a = true → (∀ w ∈ ws, okW w = true) → okW (joinL a ws) = true
  | [], _, _ => rfl
  | [w], _, h => h w List.mem_cons_self
  | w :: u :: r, ha, h => by
    show okW (w ++ (a ++ joinL a (u :: r))) = true
    exact okW_app (h w List.mem_cons_self) (okW_app ha (joinL_ok ha fun z hz => h z (List.mem_cons_of_mem _ hz)))
theorem joinL_len (a : Wd) : ∀ ws : List Wd, (joinL a ws).length ≤ (ws.map (·.length)).sum + ws.length * a.length
  | [] => Nat.zero_le _
  | [w] => by simp [joinL]
  | w :: u :: r => by
    have := joinL_len a (u :: r)
    show (w ++ (a ++ joinL a (u :: r))).length ≤ _
    simp only [List.length_append, List.map_cons, List.sum_cons, List.length_cons] at *
    rw [Nat.add_mul, Nat.add_mul] at *
    omega
/-- sep.join(words) -/
theorem de_join {u : Wd} {ws : List Wd} (A : DE X a ρ ω (.v (cS u)) ω1) (B : DE X b ρ ω1 d2 ω2) (L : IsL ω2 d2 (ws.map cS)) (hz : (ws.map (·.length)).sum + ws.length * u.length ≤ 16777216)
    (hs : starEach [b] X.env = [(false, eval b X.env)] := by rfl) (hbase : attributeBase a "join" X.env (eval a X.env) = eval a X.env := by rfl) (hline : (apos.endLine == pos.line) = true := by rfl) :
    DE X (.Call (.Attribute a "join" apos) [b] [] pos) ρ ω (.v (cS (joinL u ws))) ω2 :=
  pe_mono (pe_join A B hs hbase hline) fun σ H Q ⟨Z, HF, S', q⟩ => ⟨Z, HF, S', fun x HF1 H1 e1 S1 r1 => by
    obtain ⟨rfl, h1, h2⟩ := RD.word r1
    refine ⟨⟨_, rfl⟩, Z, HF1, S1, fun y HF2 H2 e2 S2 r2 => ?_⟩
    obtain ⟨l, vs, rfl, g1, g2, g3⟩ := L.at S2 r2
    obtain ⟨k1, k2⟩ := rps_words g3
    refine ⟨_, l, ws.map S, rfl, rfl, .inl (k1 ▸ SqL.of g1), ?_, ?_⟩
    · have : ((ws.map S).map (·.length)) = ws.map (·.length) := by rw [List.map_map]; exact List.map_congr_left fun w _ => S_len w
      rw [this, List.length_map, S_len]
      exact hz
    · have : Txt.join (S u) (ws.map S) = S (joinL u ws) := by
        rw [join_eq, S_tl (Str.join _ _), tl_join, List.map_map]
        have : (tl ∘ S) = id := by funext w; rfl
        rw [this, List.map_id]
        rfl
      rw [this]
      exact q _ HF2 H2 (e1.trans e2) S2 (rdW (Nat.le_trans (joinL_len _ _) (Nat.le_trans hz (by rw [sizeLine_eq]; decide))) (joinL_ok h2 fun w hw => (k2 w hw).1))⟩
theorem spl_mem {s : Wd} : ∀ (l : Wd) (k : Nat) (acc : Wd), ∀ w ∈ spl s k acc l, ∀ z ∈ w, z ∈ acc ∨ z ∈ l
  | [], k, acc, w, hw, z, hz => by
    unfold spl at hw
    rw [List.mem_singleton] at hw
    subst hw
    exact .inl hz
  | c :: r, 0, acc, w, hw, z, hz => by
    unfold spl at hw
    split at hw
    · rcases List.mem_cons.mp hw with rfl | hw
      · exact .inl hz
      · rcases spl_mem r _ [] w hw z hz with h | h
        · cases h
        · exact .inr (List.mem_cons_of_mem _ h)
    · rcases spl_mem r _ _ w hw z hz with h | h
      · rcases List.mem_append.mp h with h | h
        · exact .inl h
        · exact .inr (List.mem_cons.mpr (.inl (List.mem_singleton.mp h)))
      · exact .inr (List.mem_cons_of_mem _ h)
  | c :: r, k + 1, acc, w, hw, z, hz => by
    unfold spl at hw
    rcases spl_mem r _ _ w hw z hz with h | h
    · exact .inl h
    · exact .inr (List.mem_cons_of_mem _ h)
theorem spl_len {s : Wd} : ∀ (l : Wd) (k : Nat) (acc : Wd), ∀ w ∈ spl s k acc l, w.length ≤ acc.length + l.length
  | [], k, acc, w, hw => by
    unfold spl at hw
    rw [List.mem_singleton] at hw
    subst hw
    simp
  | c :: r, 0, acc, w, hw => by
    unfold spl at hw
    split at hw
    · rcases List.mem_cons.mp hw with rfl | hw
      · omega
      · have := spl_len r _ [] w hw; simp at this ⊢; omega
    · have := spl_len r _ _ w hw; simp at this ⊢; omega
  | c :: r, k + 1, acc, w, hw => by
    unfold spl at hw
    have := spl_len r _ _ w hw; simp at this ⊢; omega
theorem spl_count {s : Wd} : ∀ (l : Wd) (k : Nat) (acc : Wd), (spl s k acc l).length ≤ l.length + 1
  | [], k, acc => by unfold spl; simp
  | c :: r, 0, acc => by
    unfold spl
    split
    · have := spl_count (s := s) r (s.length - 1) []; simp at this ⊢; omega
    · have := spl_count (s := s) r 0 (acc ++ [c]); simp at this ⊢; omega
  | c :: r, k + 1, acc => by
    unfold spl
    have := spl_count (s := s) r k acc; simp at this ⊢; omega
/-- s.split(sep), sep a written text -/
theorem dn_split {w sep : Wd} (A : DE X a ρ ω (.v (cS w)) ω1) (B : DE X b ρ ω1 (.v (cS sep)) ω2) (hsep : (!sep.isEmpty && sep.all (· < 256)) = true) (hz : w.length + 2 ≤ sizeLine)
    (hs : starEach [b] X.env = [(false, eval b X.env)] := by rfl) (hbase : attributeBase a "split" X.env (eval a X.env) = eval a X.env := by rfl) (hline : (apos.endLine == pos.line) = true := by rfl) :
    DN X (.Call (.Attribute a "split" apos) [b] [] pos) ρ ω (.lst ((spl sep 0 [] w).map cS)) ω2 :=
  pe_mono (pe_split A B hs hbase hline) fun σ H Q ⟨Z, HF, S', q⟩ => ⟨Z, HF, S', fun x HF1 H1 e1 S1 r1 => by
    obtain ⟨rfl, h1, h2⟩ := RD.word r1
    refine ⟨⟨_, rfl⟩, Z, HF1, S1, fun y HF2 H2 e2 S2 r2 => ?_⟩
    obtain ⟨rfl, h3, h4⟩ := RD.word r2
    rw [Bool.and_eq_true] at hsep
    have hne : sep ≠ [] := by
      intro e; rw [e] at hsep; cases hsep.1
    refine ⟨S w, S sep, rfl, rfl, ?_, by rw [S_len]; exact hz, fun p hp => ?_⟩
    · rw [S_len]
      cases sep with
      | nil => exact absurd rfl hne
      | cons c r => rfl
    · have hk : (S sep).cps.all (· < 256) = true := by rw [← Array.all_toList, S_list]; exact hsep.2
      have e : (Txt.split (S w) (S sep)) = (spl sep 0 [] w).map S := by
        apply map_tl_inj
        rw [split_spl (S w) (S sep) (by rw [tl_S]; exact hne) (kind_ok hk), List.map_map]
        have : (tl ∘ S) = id := by funext w; rfl
        rw [this, List.map_id]
        rfl
      rw [e]
      have all : ∀ u ∈ spl sep 0 [] w, okW u = true ∧ u.length ≤ sizeLine := fun u hu => ⟨okW_sub h2 fun z hz => (spl_mem w 0 [] u hu z hz).elim (fun h => nomatch h) id, by
        have := spl_len w 0 [] u hu
        simp at this
        omega⟩
      refine q p HF2 _ (e1.trans e2) (S2.newC hp ⟨rfl, _, upd_same, ?_, words_rps all⟩)
      rw [List.length_map, List.length_map]
      have := spl_count (s := sep) w 0 []
      omega⟩
/-- lists put together -/
theorem dn_cat {ps qs : List PyData} (A : DE X a ρ ω d1 ω1) (B : DE X b ρ ω1 d2 ω2) (L1 : IsL ω2 d1 ps) (L2' : IsL ω2 d2 qs) (hz : ps.length + qs.length ≤ sizeLine) : DN X (.BinOp a .Add b pos) ρ ω (.lst (ps ++ qs)) ω2 :=
  dn_op op_cat A B fun Z HF H σ x y Q S r1 r2 q => by
    obtain ⟨l, vs, rfl, h1, h2, h3⟩ := L1.at S r1
    obtain ⟨m, us, rfl, g1, g2, g3⟩ := L2'.at S r2
    have hl : vs.length + us.length ≤ sizeLine := by rw [h3.length, g3.length]; exact hz
    exact ⟨l, m, vs, us, rfl, rfl, h1, g1, hl, fun p hp => q p HF _ (Same.refl _) (S.newC hp (cell_lst (by rw [List.length_append]; exact hl) (h3.append g3)))⟩
theorem rps_rep {H : Hp} {ps : List PyData} {vs : List V} (r : Rps H ps vs) : ∀ n : Nat, Rps H (List.replicate n ps).flatten (List.replicate n vs).flatten
  | 0 => rfl
  | n + 1 => by
    rw [List.replicate_succ, List.replicate_succ, List.flatten_cons, List.flatten_cons]
    exact r.append (rps_rep r n)
theorem dn_rep {ps : List PyData} {n : Int} (A : DE X a ρ ω d1 ω1) (B : DE X b ρ ω1 (.v (cI n)) ω2) (L1 : IsL ω2 d1 ps) (hz : -(2 ^ 63) ≤ n ∧ n < 2 ^ 63 ∧ ps.length * n.toNat ≤ sizeLine) : DN X (.BinOp a .Mult b pos) ρ ω (.lst (List.replicate n.toNat ps).flatten) ω2 :=
  dn_op op_rep A B fun Z HF H σ x y Q S r1 r2 q => by
    obtain ⟨l, vs, rfl, h1, h2, h3⟩ := L1.at S r1
    have hl : vs.length * n.toNat ≤ sizeLine := by rw [h3.length]; exact hz.2.2
    refine ⟨l, n, vs, rfl, r2, h1, hz.1, hz.2.1, hl, fun p hp => q p HF _ (Same.refl _) (S.newC hp (cell_lst ?_ (rps_rep h3 _)))⟩
    rw [List.length_flatten, List.map_replicate, List.sum_replicate_nat, Nat.mul_comm]
    exact hl
end
end Q
end

section
set_option Elab.async false
set_option linter.all false
set_option maxRecDepth 100000
set_option maxHeartbeats 1000000
/-! LAYER 5: the same, told by types: how plain Lean values stand for data; the mirrors' own words. -/
namespace Q
open PySem L2 TL

/-! ### mirrors -/
def lt {α β : Type} (a : α) (f : α → Option β) : Option β := f a
theorem lt_some {α β : Type} {a : α} {f : α → Option β} {r : β} (h : lt a f = some r) : ∃ x, x = a ∧ f x = some r := ⟨a, rfl, h⟩
def gd {β : Type} (p : Prop) [Decidable p] (k : Option β) : Option β := if p then k else none
theorem gd_some {β : Type} {p : Prop} [Decidable p] {k : Option β} {r : β} (h : gd p k = some r) : p ∧ k = some r := by
  unfold gd at h
  split at h
  · exact ⟨by assumption, h⟩
  · cases h
theorem gd_pos {β : Type} {p : Prop} [Decidable p] {k : Option β} (h : p) : gd p k = k := if_pos h
def cnd {β : Type} (b : Bool) (m n : β) : β := if b = true then m else n
theorem cnd_t {β : Type} {b : Bool} {m n : Option β} {r : β} (hb : b = true) (h : cnd b m n = some r) : m = some r := by subst hb; exact h
theorem cnd_f {β : Type} {b : Bool} {m n : Option β} {r : β} (hb : b = false) (h : cnd b m n = some r) : n = some r := by subst hb; exact h
theorem some_i {α : Type} {a b : α} (h : some a = some b) : a = b := Option.some.inj h

/-! ### codes -/
def cO {α : Type} (c : α → PyData) : Option α → PyData
  | none => .none
  | some x => c x
abbrev cL {α : Type} (c : α → PyData) (xs : List α) : PyData := .list (xs.map c)
abbrev cT {α : Type} (c : α → PyData) (xs : List α) : PyData := .tuple (xs.map c)
abbrev cP : PyData → PyData := fun p => p
abbrev c1 {α : Type} (a : α → PyData) (p : α) : PyData := .tuple [a p]
abbrev c2 {α β : Type} (a : α → PyData) (b : β → PyData) (p : α × β) : PyData := .tuple [a p.1, b p.2]
abbrev c3 {α β γ : Type} (a : α → PyData) (b : β → PyData) (c : γ → PyData) (p : α × β × γ) : PyData := .tuple [a p.1, b p.2.1, c p.2.2]
abbrev c4 {α β γ δ : Type} (a : α → PyData) (b : β → PyData) (c : γ → PyData) (d : δ → PyData) (p : α × β × γ × δ) : PyData := .tuple [a p.1, b p.2.1, c p.2.2.1, d p.2.2.2]
abbrev c5 {α β γ δ ε : Type} (a : α → PyData) (b : β → PyData) (c : γ → PyData) (d : δ → PyData) (e : ε → PyData) (p : α × β × γ × δ × ε) : PyData := .tuple [a p.1, b p.2.1, c p.2.2.1, d p.2.2.2.1, e p.2.2.2.2]
abbrev c6 {α β γ δ ε ζ : Type} (a : α → PyData) (b : β → PyData) (c : γ → PyData) (d : δ → PyData) (e : ε → PyData) (f : ζ → PyData) (p : α × β × γ × δ × ε × ζ) : PyData := .tuple [a p.1, b p.2.1, c p.2.2.1, d p.2.2.2.1, e p.2.2.2.2.1, f p.2.2.2.2.2]
theorem isN_cO {α : Type} {c : α → PyData} (h : ∀ x, isN (c x) = false) (o : Option α) : isN (cO c o) = o.isNone := by
  cases o with
  | none => rfl
  | some x => exact h x
theorem atI_map {α : Type} {c : α → PyData} {xs : List α} {i : Int} {x : α} (h : atI xs i = some x) : atI (xs.map c) i = some (c x) := by
  unfold atI at *
  rw [List.length_map]
  cases hk : ixN xs.length i with
  | none => rw [hk] at h; cases h
  | some k =>
    rw [hk] at h
    show (xs.map c)[k]? = some (c x)
    rw [List.getElem?_map, show xs[k]? = some x from h]
    rfl
theorem eraseIdx_map' {α β : Type} (f : α → β) : ∀ (xs : List α) (k : Nat), (xs.map f).eraseIdx k = (xs.eraseIdx k).map f
  | [], _ => rfl
  | x :: xs, 0 => rfl
  | x :: xs, k + 1 => by
    show f x :: (xs.map f).eraseIdx k = f x :: (xs.eraseIdx k).map f
    rw [eraseIdx_map' f xs k]
def setI {α : Type} (xs : List α) (i : Int) (x : α) : Option (List α) := (ixN xs.length i).map fun k => xs.set k x
def popI {α : Type} (xs : List α) (i : Int) : Option (α × List α) := (ixN xs.length i).bind fun k => (xs[k]?).map fun x => (x, xs.eraseIdx k)
section
variable {X : Cx} {ρ : En} {ω ω1 ω2 ω3 : Sto} {d d1 d2 : D} {e a b o ix : Expr} {pos apos p p1 : Pos} {P : OP} {rest : List Stmt} {α : Type} {c : α → PyData} {xs ys : List α} {x : α}
theorem de_is {d' : D} (A : DE X e ρ ω d ω1) (h : d = d') : DE X e ρ ω d' ω1 := h ▸ A
theorem de_lenLt (hm : X.mg "len" = none) (A : DE X a ρ ω d1 ω1) (L : IsL ω1 d1 (xs.map c)) (hg : Gl X "len" := by rfl) (hs : Sg X a [] pos := by exact ⟨rfl, rfl⟩) : DE X (.Call (.Name "len" p) [a] [] pos) ρ ω (.v (cI xs.length)) ω1 :=
  de_is (de_lenL hm A L hg hs) (by rw [List.length_map])
theorem de_lenTt (hm : X.mg "len" = none) (A : DE X a ρ ω (.v (cT c xs)) ω1) (hg : Gl X "len" := by rfl) (hs : Sg X a [] pos := by exact ⟨rfl, rfl⟩) : DE X (.Call (.Name "len" p) [a] [] pos) ρ ω (.v (cI xs.length)) ω1 :=
  de_is (de_lenT hm A hg hs) (by rw [List.length_map])
theorem de_ixLt {i : Int} (A : DE X a ρ ω d1 ω1) (B : DE X b ρ ω1 (.v (cI i)) ω2) (L : IsL ω2 d1 (xs.map c)) (h : atI xs i = some x) (hs : PlainIx b := by exact fun _ _ => rfl) : DE X (.Subscript a b pos) ρ ω (.v (c x)) ω2 := de_ixL A B L (atI_map h) hs
theorem de_ixTt {i : Int} (A : DE X a ρ ω (.v (cT c xs)) ω1) (B : DE X b ρ ω1 (.v (cI i)) ω2) (h : atI xs i = some x) (hs : PlainIx b := by exact fun _ _ => rfl) : DE X (.Subscript a b pos) ρ ω (.v (c x)) ω2 := de_ixT A B (atI_map h) hs
theorem de_appendT (j : Nat) {ω' : Sto} {l : Addr} (A : DE X a ρ ω (.adr l) ω1) (B : DE X b ρ ω1 (.v (c x)) ω2) (hz : xs.length < sizeLine) (hj : ω2[j]? = some (l, .lst (xs.map c)) := by rfl) (hω : ω2.set j (l, .lst ((xs ++ [x]).map c)) = ω' := by rfl) (hj1 : ∃ ps', ω1[j]? = some (l, .lst ps') := by exact ⟨_, rfl⟩)
    (hbase : attributeBase a "append" X.env (eval a X.env) = eval a X.env := by rfl)
    (hfew : ((backTo pos (starEach [b] X.env)).all (fun x => !x.1) && (backToKw pos (keywordEach [] X.env)).all (fun x => x.1.isSome) && decide ([b].length + ([] : List Keyword).length + (if ([] : List Keyword).isEmpty then 0 else 1) < 30)) = true := by rfl)
    (hline : (apos.endLine == pos.line) = true := by rfl) (hs : starEach [b] X.env = (false, eval b X.env) :: starEach [] X.env := by rfl) (hplain : (backTo pos (starEach [] X.env)).any (·.1) = false := by rfl) :
    DE X (.Call (.Attribute a "append" apos) [b] [] pos) ρ ω (.v .none) ω' :=
  de_append j A B (by rw [List.length_map]; exact hz) hj (by rw [← hω, List.map_append]; rfl) hj1 hbase hfew hline hs hplain
theorem de_popT (j : Nat) {ω' : Sto} {l : Addr} {i : Int} {y : α × List α} (A : DE X a ρ ω (.adr l) ω1) (B : DE X b ρ ω1 (.v (cI i)) ω2) (h : popI xs i = some y) (hi : -(2 ^ 63) ≤ i ∧ i < 2 ^ 63) (hj : ω2[j]? = some (l, .lst (xs.map c)) := by rfl) (hω : ω2.set j (l, .lst (y.2.map c)) = ω' := by rfl) (hj1 : ∃ ps', ω1[j]? = some (l, .lst ps') := by exact ⟨_, rfl⟩)
    (hbase : attributeBase a "pop" X.env (eval a X.env) = eval a X.env := by rfl)
    (hfew : ((backTo pos (starEach [b] X.env)).all (fun x => !x.1) && (backToKw pos (keywordEach [] X.env)).all (fun x => x.1.isSome) && decide ([b].length + ([] : List Keyword).length + (if ([] : List Keyword).isEmpty then 0 else 1) < 30)) = true := by rfl)
    (hline : (apos.endLine == pos.line) = true := by rfl) (hs : starEach [b] X.env = (false, eval b X.env) :: starEach [] X.env := by rfl) (hplain : (backTo pos (starEach [] X.env)).any (·.1) = false := by rfl) :
    DE X (.Call (.Attribute a "pop" apos) [b] [] pos) ρ ω (.v (c y.1)) ω' := by
  unfold popI at h
  obtain ⟨k, hk, h⟩ := bnd h
  cases hx : xs[k]? with
  | none => rw [hx] at h; cases h
  | some x =>
    rw [hx] at h
    cases (some_i h)
    exact de_popAt j A B (k := k) (by rw [List.length_map]; exact hk) (by rw [List.getElem?_map, hx]; rfl) hi hj (by rw [← hω, eraseIdx_map']) hj1 hbase hfew hline hs hplain
theorem dss_setT (j : Nat) {ω' : Sto} {l : Addr} {i : Int} {ys : List α} (A : DE X e ρ ω (.v (c x)) ω1) (B : DE X o ρ ω1 (.adr l) ω2) (C : DE X ix ρ ω2 (.v (cI i)) ω3) (h : setI xs i x = some ys) (R : DSs X rest ρ ω' P) (hj : ω3[j]? = some (l, .lst (xs.map c)) := by rfl) (hω : ω3.set j (l, .lst (ys.map c)) = ω' := by rfl)
    (hs : swapsWithSole [.Subscript o ix p1] e pos.line X.env = pure false := by rfl) (hw : swappedStores [.Subscript o ix p1] e X.env = pure none := by rfl)
    (h1 : (assignEach [.Subscript o ix p1] X.env).map (·.2) = [assign (.Subscript o ix p1) X.env] := by rfl) (ha : SubA X o ix p1 := by exact fun _ => rfl) : DSs X (.Assign [.Subscript o ix p1] e pos :: rest) ρ ω P := by
  unfold setI at h
  cases hk : ixN xs.length i with
  | none => rw [hk] at h; cases h
  | some k =>
    rw [hk] at h
    cases (some_i h)
    exact dss_setIx j A B C (k := k) (by rw [List.length_map]; exact hk) R hj (by rw [← hω, List.map_set]) hs hw h1 ha
theorem dn_is {c c' : Cell} (A : DN X e ρ ω c ω1) (h : c = c') : DN X e ρ ω c' ω1 := h ▸ A
theorem comp_is {elt tg iter : Expr} {ifs : List Expr} {scope : Scope} {c c' : Cell} (A : CompD X elt tg iter ifs scope ρ ω c ω1) (h : c = c') : CompD X elt tg iter ifs scope ρ ω c' ω1 := h ▸ A
theorem dn_sliceLt {lo hi : Option Int} {lo' hi' : Option Expr} {p2 : Pos} (A : DE X a ρ ω d1 ω1) (B : DO X lo' ρ ω1 lo ω2) (C : DO X hi' ρ ω2 hi ω3) (L : IsL ω3 d1 (xs.map c)) : DN X (.Subscript a (.Slice lo' hi' none p2) pos) ρ ω (.lst ((cut xs lo hi).map c)) ω3 :=
  dn_is (dn_sliceL A B C L) (by rw [cut_map])
theorem dn_catT (A : DE X a ρ ω d1 ω1) (B : DE X b ρ ω1 d2 ω2) (L1 : IsL ω2 d1 (xs.map c)) (L2' : IsL ω2 d2 (ys.map c)) (hz : xs.length + ys.length ≤ sizeLine) : DN X (.BinOp a .Add b pos) ρ ω (.lst ((xs ++ ys).map c)) ω2 :=
  dn_is (dn_cat A B L1 L2' (by rw [List.length_map, List.length_map]; exact hz)) (by rw [List.map_append])
theorem dn_repT {n : Int} (A : DE X a ρ ω d1 ω1) (B : DE X b ρ ω1 (.v (cI n)) ω2) (L1 : IsL ω2 d1 (xs.map c)) (hz : -(2 ^ 63) ≤ n ∧ n < 2 ^ 63 ∧ xs.length * n.toNat ≤ sizeLine) : DN X (.BinOp a .Mult b pos) ρ ω (.lst ((List.replicate n.toNat xs).flatten.map c)) ω2 :=
  dn_is (dn_rep A B L1 (by rw [List.length_map]; exact hz)) (by rw [List.map_flatten, List.map_replicate])
theorem dt_truCt (j : Nat) {l : Addr} (A : DE X a ρ ω (.adr l) ω1) (hj : ω1[j]? = some (l, .lst (xs.map c)) := by rfl) (he : ∀ whole, isTrue a X.env whole = (do let v ← whole; standAt a.pos; holding [v] (truthy v)) := by intro _; rfl) : DT X a ρ ω (!xs.isEmpty) ω1 := by
  have h := dt_truC j A hj he
  rwa [List.isEmpty_map] at h
theorem dt_truLt (A : DE X a ρ ω (.v (cL c xs)) ω1) (he : ∀ whole, isTrue a X.env whole = (do let v ← whole; standAt a.pos; holding [v] (truthy v)) := by intro _; rfl) : DT X a ρ ω (!xs.isEmpty) ω1 := by
  have h := dt_tru A he
  simp only [tru, List.isEmpty_map] at h
  exact h
theorem dt_truTt (A : DE X a ρ ω (.v (cT c xs)) ω1) (he : ∀ whole, isTrue a X.env whole = (do let v ← whole; standAt a.pos; holding [v] (truthy v)) := by intro _; rfl) : DT X a ρ ω (!xs.isEmpty) ω1 := by
  have h := dt_tru A he
  simp only [tru, List.isEmpty_map] at h
  exact h
theorem map_D {xs : List α} : (xs.map c).map D.v = xs.map fun x => D.v (c x) := by rw [List.map_map]; rfl
theorem di_listT {tg : Expr} (A : DE X e ρ ω (.v (cL c xs)) ω1) : DI X tg e ρ ω (xs.map fun x => D.v (c x)) ω1 := map_D (c := c) ▸ di_list A
theorem di_tupT {tg : Expr} (A : DE X e ρ ω (.v (cT c xs)) ω1) : DI X tg e ρ ω (xs.map fun x => D.v (c x)) ω1 := map_D (c := c) ▸ di_tup A
theorem de_bools {α : Type} {xs : List α} {f : α → Bool} (A : DE X e ρ ω (.v (cL (fun x => cB (f x)) xs)) ω1) : DE X e ρ ω (.v (.list ((xs.map f).map cB))) ω1 := de_is A (by rw [List.map_map]; rfl)
/-- a cell of chars: a text as a list of its signs? no: [text][i] of a written table of words: lists are lists -/
theorem da_c {es : List Expr} {ps : List D} (A : DA X es ρ ω ps ω1) : DA X es ρ ω ps ω1 := A
end
/-- list(range(n)) -/
theorem rps_ints {H : Hp} : ∀ (ns : List Int), Rps H (ns.map cI) (ns.map V.int)
  | [] => rfl
  | n :: ns => ⟨_, _, rfl, rfl, rps_ints ns⟩
end Q
end

section
set_option Elab.async false
set_option linter.all false
set_option maxRecDepth 100000
set_option maxHeartbeats 1000000
/-! LAYER 6: further rules. -/
namespace Q
open PySem L2 TL

theorem and_val {k b : Bool} {m : Option Bool} (h : cnd k m (some false) = some b) : (k && b) = b := by
  cases k with
  | true => rfl
  | false => cases (some_i h); rfl
theorem or_val {k b : Bool} {m : Option Bool} (h : cnd k (some true) m = some b) : (k || b) = b := by
  cases k with
  | true => cases (some_i h); rfl
  | false => rfl
theorem compO_pure {α β : Type} (p : α → Bool) (g : α → β) : ∀ xs : List α, compO (fun x (_ : Unit) => some (p x)) (fun x _ => some (g x, ())) xs () = some (List.map g (List.filter p xs), ())
  | [] => rfl
  | x :: xs => by
    unfold compO
    show (if p x = true then _ else _) = _
    by_cases h : p x = true
    · rw [if_pos h, List.filter_cons, if_pos h]
      show (compO _ _ xs ()).bind _ = _
      rw [compO_pure p g xs]
      rfl
    · rw [if_neg h, List.filter_cons, if_neg h, compO_pure p g xs]
theorem compO_map {α β : Type} (g : α → β) (xs : List α) : compO (fun x (_ : Unit) => some true) (fun x _ => some (g x, ())) xs () = some (List.map g xs, ()) := by
  have := compO_pure (fun _ => true) g xs
  rw [this, List.filter_eq_self.mpr fun _ _ => rfl]
section
variable {X : Cx} {ρ ρ' : En} {ω ω' ω1 ω2 ω3 : Sto} {d d1 d2 : D} {e a b c : Expr} {es : List Expr} {pos p : Pos} {P : OP} {rest : List Stmt} {α : Type} {cd : α → PyData} {xs : List α}
theorem dw_is {k m : Bool} (A : DW X e ρ ω k ω1) (h : k = m) : DW X e ρ ω m ω1 := h ▸ A
theorem de_drop (A : DE X e ρ ω d ω1) (p : Pk ω1 ω2) : DE X e ρ ω d ω2 := pe_mono A fun σ H Q ⟨Z, HF, S, q⟩ => ⟨Z, HF, S, fun v HF1 H1 e1 S1 r1 => q v HF1 H1 e1 (p.sk S1) r1⟩
/-! chains of two comparisons -/
theorem de_chain {op op' : CmpOp} {k1 k2 : Bool} (A : DE X a ρ ω d ω1) (B : DE X b ρ ω1 d1 ω2) (C : DE X c ρ ω2 d2 ω2) (h1 : CmpD X op ρ ω2 d d1 k1) (h2 : CmpD X op' ρ ω2 d1 d2 k2) (hm : lastMarks [op, op'] [b, c] = false := by rfl) :
    DE X (.Compare a [op, op'] [b, c] pos) ρ ω (.v (cB (k1 && k2))) ω2 := by
  obtain ⟨r, ho, g1⟩ := h1.run
  obtain ⟨r', ho', g2⟩ := h2.run
  refine pe_mono (pe_chain ho ho' A B C hm) fun σ H Q ⟨Z, HF, S, q⟩ => ⟨Z, HF, S, fun x HF1 H1 e1 S1 r1 => ⟨Z, HF1, S1, fun y HF2 H2 e2 S2 r2 => ?_⟩⟩
  refine g1 Z HF2 H2 σ x y _ S2 (r1.mono e2) r2 ⟨k1, rfl, ?_⟩
  cases k1 with
  | false => exact q _ HF2 H2 (e1.trans e2) S2 rfl
  | true => exact ⟨Z, HF2, S2, fun z HF3 H3 e3 S3 r3 => g2 Z HF3 H3 σ y z _ S3 (r2.mono e3) r3 (q _ HF3 H3 ((e1.trans e2).trans e3) S3 rfl)⟩
theorem dt_chain {op op' : CmpOp} {k1 k2 : Bool} (A : DE X a ρ ω d ω1) (B : DE X b ρ ω1 d1 ω2) (C : DE X c ρ ω2 d2 ω2) (h1 : CmpD X op ρ ω2 d d1 k1) (h2 : CmpD X op' ρ ω2 d1 d2 k2) (hm : lastMarks [op, op'] [b, c] = false := by rfl) :
    DT X (.Compare a [op, op'] [b, c] pos) ρ ω (k1 && k2) ω2 := by
  obtain ⟨r, ho, g1⟩ := h1.run
  obtain ⟨r', ho', g2⟩ := h2.run
  refine pt_mono (pt_chain ho ho' A B C hm) fun σ H Q ⟨Z, HF, S, q⟩ => ⟨Z, HF, S, fun x HF1 H1 e1 S1 r1 => ⟨Z, HF1, S1, fun y HF2 H2 e2 S2 r2 => ?_⟩⟩
  refine g1 Z HF2 H2 σ x y _ S2 (r1.mono e2) r2 ⟨k1, rfl, ?_⟩
  cases k1 with
  | false => exact ⟨false, rfl, q HF2 H2 (e1.trans e2) S2⟩
  | true => exact ⟨Z, HF2, S2, fun z HF3 H3 e3 S3 r3 => g2 Z HF3 H3 σ y z _ S3 (r2.mono e3) r3 ⟨k2, rfl, q HF3 H3 ((e1.trans e2).trans e3) S3⟩⟩
/-- list(range(n)) -/
theorem dn_listRg {n : Int} {p2 pos2 : Pos} (hc : X.calm = true) (hml : X.mg "list" = none) (hmr : X.mg "range" = none) (A : DE X a ρ ω (.v (cI n)) ω1) (h : 0 ≤ n ∧ n ≤ 16777216) (hgl : Gl X "list" := by rfl) (hgr : Gl X "range" := by rfl)
    (na : starEach [a] X.env = (false, eval a X.env) :: starEach [] X.env := by rfl) (nb : starEach [Expr.Call (.Name "range" p2) [a] [] pos2] X.env = (false, eval (.Call (.Name "range" p2) [a] [] pos2) X.env) :: starEach [] X.env := by rfl) :
    DN X (.Call (.Name "list" p) [.Call (.Name "range" p2) [a] [] pos2] [] pos) ρ ω (.lst ((rng 0 n).map cI)) ω1 :=
  pe_mono (pe_listRg hc hgl hml (prg_1 hgr hmr A na) nb) fun σ H Q ⟨Z, HF, S, q⟩ => ⟨Z, HF, S, fun v HF1 H1 e1 S1 r1 => by
    refine ⟨n, r1, RgOk.of_le (by omega) h.2 (by omega) h.1, fun q' hq => ?_⟩
    have e : rgV 0 n = (rng 0 n).map V.int := by unfold rgV rng; rw [List.map_map]; rfl
    rw [e]
    have hl : ((rng 0 n).map V.int).length ≤ sizeLine := by rw [List.length_map, rng_len, sizeLine_eq]; omega
    exact q q' HF1 _ e1 (S1.newC hq (cell_lst hl (rps_ints _)))⟩
/-- x, y = e1, e2: two new cells -/
theorem dss_parN {cc1 cc2 : Cell} (i j : Nat) {x y : Str} {px py pt pt2 : Pos} {kt k2 : Nat} (A : DN X a ρ ω cc1 ω1) (B : DN X b ρ ω1 cc2 ω2) (R : ∀ p q, DSs X rest ((ρ.set i (some (.adr p))).set j (some (.adr q))) (ω2 ++ [(p, cc1), (q, cc2)]) P) (hω : ω1 = ω2 := by rfl)
    (hc : X.calm = true := by rfl) (hN : X.N.Nodup := by assumption) (hi : X.N[i]? = some x := by rfl) (hj : X.N[j]? = some y := by rfl) (hij : i ≠ j := by decide)
    (hx : X.env.scope.names.lookup x = some .local := by rfl) (hy : X.env.scope.names.lookup y = some .local := by rfl)
    (hw : swappedStores [.Tuple [.Name x px, .Name y py] kt pt] (.Tuple [a, b] k2 pt2) X.env = pure (some [x, y]) := by rfl)
    (hs : swapsWithSole [.Tuple [.Name x px, .Name y py] kt pt] (.Tuple [a, b] k2 pt2) pos.line X.env = pure false := by rfl)
    (hs1 : starEach [a, b] X.env = (false, eval a X.env) :: starEach [b] X.env := by rfl) (hs2 : starEach [b] X.env = (false, eval b X.env) :: starEach [] X.env := by rfl) : DSs X (.Assign [.Tuple [.Name x px, .Name y py] kt pt] (.Tuple [a, b] k2 pt2) pos :: rest) ρ ω P := by
  subst hω
  have B' : PE X b (fun σ H Q => ∃ p, ∃ Z HF, SK Z HF H σ ρ (ω1 ++ [(p, cc1)]) ∧ ∀ q HF' H', Same HF HF' → SK Z HF' H' σ ρ (ω1 ++ [(p, cc1), (q, cc2)]) → Q (.ref q) H') := pe_mono B fun σ H Q ⟨p, Z, HF, S, q⟩ => by
    obtain ⟨Z', S', back⟩ := S.sub
    refine ⟨Z', HF, S', fun r HF1 H1 e1 S1 => ?_⟩
    have S2 := back HF1 H1 σ ρ _ e1 S1
    refine q r HF1 H1 e1 (S2.pick (js := List.range ω1.length ++ [ω1.length + 1, ω1.length]) ?_ ?_)
    · rw [List.map_append]
      have e1 : (List.range ω1.length).map (fun j => ((ω1 ++ [(r, cc2)]) ++ [(p, cc1)])[j]?) = ω1.map some := by
        apply List.ext_getElem
        · simp
        · intro i h1 h2
          simp at h1
          simp [List.getElem?_append_left, h1]
      rw [e1]
      simp
    · rw [List.nodup_append]
      refine ⟨List.nodup_range, by simp, fun x hx y hy => ?_⟩
      simp at hx hy
      omega
  refine pss_mono (pss_cons (ps_par hc hN hi hj hij hx hy (pa_cons A (pa_cons B' pa_nil hs2) hs1) hw hs) (pss_any fun pq : Addr × Addr => R pq.1 pq.2)) fun E σ H ⟨Z, HF, S, q⟩ => ⟨Z, HF, S, fun p1 HF1 H1 e1 S1 => ⟨p1, Z, HF1, S1, fun q1 HF2 H2 e2 S2 => ?_⟩⟩
  exact ⟨_, _, rfl, ⟨(p1, q1), Z, HF2, (S2.set i (d := .adr p1) rfl).set j (d := .adr q1) rfl, fun o po => (q o po).mono (e1.trans e2)⟩⟩
end

/-! ### sorted -/
open PySem.W in
def sortBy {α : Type} (c : α → PyData) (xs : List α) : List α := xs.mergeSort (dataLe false c)
section
variable {X : Cx} {pins : List (Addr × Obj)} {σ : L2.St} {H : Hp} {s : Shared}
theorem each_of_rps {α : Type} {c : α → PyData} : ∀ {xs : List α} {vs : List V} {us : List Value}, Rps H (xs.map c) vs → Vals vs us → PySem.W.EachIs (fun u x => ∃ v, RelV v u ∧ Rp H (c x) v) us xs
  | [], _, us, h, r => by cases h; cases r; exact .nil
  | x :: xs, _, us, h, r => by
    obtain ⟨v, t, rfl, h1, h2⟩ := h
    cases r with
    | cons r1 r2 => exact .cons ⟨v, r1, h1⟩ (each_of_rps h2 r2)
theorem rps_of_each {α : Type} {c : α → PyData} : ∀ {xs : List α} {us : List Value}, PySem.W.EachIs (fun u x => ∃ v, RelV v u ∧ Rp H (c x) v) us xs → ∃ vs, Vals vs us ∧ Rps H (xs.map c) vs
  | _, _, .nil => ⟨[], .nil, rfl⟩
  | _, _, .cons ⟨v, r1, h1⟩ t => by
    obtain ⟨vs, r2, h2⟩ := rps_of_each t
    exact ⟨v :: vs, .cons r1 r2, v, vs, rfl, h1, h2⟩
end

namespace Srt
open PySem PySem.W PySem.Calls PyProof.Rows
variable {prog : Program} {w : World} {A : Around} {E : Value → Shared → Prop} {s : Shared}
/-- what a list or a tuple holds, collected -/
theorem collect_seq {l : Addr} {T : String} {vs : List Value} {o : Obj} {n : Nat} {Q : List Value → Shared → Prop} (ho : s.heap.get? l = some o) (hc : o.cls = .type T) (hT : T = "list" ∨ T = "tuple") (hd : o.data = .seq vs.toArray n)
    (h : Q vs { s with heap := (s.heap.push (seqObj "list" #[] 0)).update s.heap.objs.size (Obj.mapSeq (· ++ vs.toArray)) }) (hsz : vs.length ≤ sizeLine) :
    wpAny (model prog w) A (collect (.ref l)) Q E s := by
  unfold collect
  refine wpAny_bind (wpAny_runValue (codeAny_builtin entry_proto_collect' ?_))
  show wpAny _ _ (do again (.builtin "list.__iadd__" ⟨[← newList [], .ref l], []⟩)) _ _ s
  refine wpAny_bind (wpAny_newList (wpAny_pure ⟨Code.quiet_builtin _ (by decide +kernel), codeAny_builtin entry_list_iadd' ?_⟩))
  show wpAny _ _ (Builtin.List.listExtendWith (.ref s.heap.objs.size) (.ref l) (.ref s.heap.objs.size)) _ _ { s with heap := s.heap.push (seqObj "list" #[] 0) }
  unfold Builtin.List.listExtendWith
  have ho' : (s.heap.push (seqObj "list" #[] 0)).get? l = some o := Heap.get?_push_of_some _ ho
  refine wpAny_bind (wpAny_typeOf (T := T) ⟨o, ho', hc⟩ ?_)
  have ht : (Builtin.List.listSameRef (.ref s.heap.objs.size) (.ref l) || Value.type T == Value.type "list" || Value.type T == Value.type "tuple") = true := by
    rcases hT with rfl | rfl
    · have : (Value.type "list" == Value.type "list") = true := by rfl
      rw [this]; simp
    · have : (Value.type "tuple" == Value.type "tuple") = true := by rfl
      rw [this]; simp
  rw [if_pos ht]
  refine wpAny_bind (listItems_at ho' hd ?_)
  refine wpAny_bind (listItems_at (xs := #[]) (n := 0) (Heap.get?_push_size _ rfl) rfl ?_)
  rw [if_neg (by simp)]
  refine wpAny_bind (listUpdate_at (xs := #[]) (n := 0) (Heap.get?_push_size _ rfl) rfl ?_ (Nat.zero_le _) (by show (#[] ++ vs.toArray).size ≤ sizeLine + 1; simp only [Array.size_append, List.size_toArray, List.length_nil]; omega))
  refine wpAny_pure ?_
  show wpAny (model prog w) A (do
      let o ← load s.heap.objs.size
      match o.data with
      | .seq xs _ => pure xs.toList
      | _ => unsupported "internal:collect") Q E { s with heap := (s.heap.push (seqObj "list" #[] 0)).update s.heap.objs.size (Obj.mapSeq (· ++ vs.toArray)) }
  refine wpAny_bind (wpAny_load (get?_update_seq (Heap.get?_push_size _ rfl) _) ?_)
  show wpAny _ _ (pure ((#[] : Array Value) ++ vs.toArray).toList) Q E _
  rw [show ((#[] : Array Value) ++ vs.toArray).toList = vs by simp]
  exact wpAny_pure h
theorem sorted_seq {l : Addr} {T : String} {vs : List Value} {o : Obj} {n : Nat} {Q : Value → Shared → Prop} (ho : s.heap.get? l = some o) (hc : o.cls = .type T) (hT : T = "list" ∨ T = "tuple") (hd : o.data = .seq vs.toArray n) (hL : vs.length ≤ sizeLine)
    (body : ∀ E' : Value → Shared → Prop, wpAny (model prog w) A.in1.in1 (Builtin.«list.sort» ⟨[.ref (s.heap.objs.size + 1)], []⟩) (fun f s' => f = .done (.ret .none) ∧ Q (.ref (s.heap.objs.size + 1)) s') E' { s with heap := copyHeap s.heap vs }) :
    wpAny (model prog w) A (call (.builtin "sorted") [.ref l] []) Q E s := by
  refine call_function_entry_kw kind_sorted plain_sorted entry_sorted (args_sorted1 _) ?_
  unfold Builtin.«sorted»
  refine wpAny_bind (m := checkCount "sorted" 1 1 _) (wpAny_pure ?_)
  refine wpAny_bind (collect_seq ho hc hT hd ?_ hL)
  refine wpAny_bind (wpAny_newList ?_ hL)
  have hsz : ((s.heap.push (seqObj "list" #[] 0)).update s.heap.objs.size (Obj.mapSeq (· ++ vs.toArray))).objs.size = s.heap.objs.size + 1 := by
    rw [Heap.size_update, size_push']
  show wpAny _ _ _ _ _ { s with heap := copyHeap s.heap vs }
  rw [hsz]
  refine wpAny_bind (wpAny_holding (wpAny_call_entry_kw slot_list_sort ⟨_, copyHeap_at s.heap vs, rfl⟩ entry_list_sort ?body (args_list_sort _)))
  case body =>
    show wpAny (model prog w) A.in1.in1 (Builtin.«list.sort» ⟨[.ref (s.heap.objs.size + 1)], []⟩) _ _ _
    refine wpAny_mono (body _) (fun f s' hf => ?_) fun _ _ e => e
    obtain ⟨rfl, hq⟩ := hf
    exact ⟨_, rfl, wpAny_pure ⟨_, rfl, hq⟩⟩
theorem sorted_seq_data {β : Type} {bs : List β} {enc : β → PyData} {R : Value → β → Prop} {l : Addr} {T : String} {vs : List Value} {o : Obj} {n : Nat} {Q : Value → Shared → Prop} (ho : s.heap.get? l = some o) (hc : o.cls = .type T) (hT : T = "list" ∨ T = "tuple") (hd : o.data = .seq vs.toArray n)
    (e : EachIs R vs bs) (er : EachIs (fun v b => ∃ as, Reads s.heap v (enc b) as) vs bs) (hal : AllAlike (bs.map enc)) (hk : Sortable (bs.map enc)) (hL : bs.length ≤ sizeLine)
    (hu : ∀ b, b ∈ bs → A.units + 2 + (enc b).depth < cLine) (h : ∀ out, out.length = bs.length → EachIs R out (bs.mergeSort (dataLe false enc)) → Q (.ref (s.heap.objs.size + 1)) { s with heap := sortedAll s.heap vs (List.toArray out) }) :
    wpAny (model prog w) A (call (.builtin "sorted") [.ref l]) Q E s := by
  have er' : EachIs (fun v b => ∃ as, Reads (sortingHeap (copyHeap s.heap vs) (s.heap.objs.size + 1) vs) v (enc b) as) vs bs := er.mono fun _ _ ⟨as, r⟩ => ⟨as, PyProof.Rows.Reads.keeps (fun _ _ => sorting_copy_old) r⟩
  refine sorted_seq ho hc hT hd (by rw [e.length]; exact hL) fun E' => ?_
  refine list_sort_vals (s := { s with heap := copyHeap s.heap vs }) (copyHeap_at s.heap vs) (SortsAt.data (s := { s with heap := sortingHeap (copyHeap s.heap vs) (s.heap.objs.size + 1) vs }) (each_map (R := fun v d => ∃ as, Reads (sortingHeap (copyHeap s.heap vs) (s.heap.objs.size + 1) vs) v d as) enc er') hal hk (bound_map hu)) (by rw [e.length]; exact hL) ⟨rfl, ?_⟩
  exact h _ (by rw [sortVals_length false rfl]; exact e.length) (sortVals_data false e er' hal)
end Srt
/-- alike items: what may be sorted -/
def AlikeC {α : Type} (c : α → PyData) : Prop := ∀ x y, PySem.W.alike (c x) (c y) = true
def SortC {α : Type} (c : α → PyData) : Prop := (∀ x, ∃ y r, c x = .tuple (y :: r)) ∨ ∀ x, c x ≠ .none ∧ ∀ ds, c x ≠ .tuple ds
theorem al_of {α : Type} {c : α → PyData} (h : ∀ x y, PySem.W.alike (c x) (c y) = true) : AlikeC c := h
theorem so_tup {α : Type} {c : α → PyData} (h : ∀ x, ∃ y r, c x = .tuple (y :: r)) : SortC c := .inl h
theorem so_flat {α : Type} {c : α → PyData} (h : ∀ x, c x ≠ .none ∧ ∀ ds, c x ≠ .tuple ds) : SortC c := .inr h
def rSrt {α : Type} (c : α → PyData) (xs : List α) : List V → Hp → VK → Prop := fun vs H Q => ∃ l us, vs = [.ref l] ∧ (H l = some (.lst us) ∨ H l = some (.tup us)) ∧ us.length ≤ sizeLine ∧ ∃ HF, Same HF H ∧ Rps HF (xs.map c) us ∧
  ∀ p us', H p = none → us'.length = us.length → Rps HF ((sortBy c xs).map c) us' → Q (.ref p) (upd H p (.lst us'))
theorem cr_srt {X : Cx} {α : Type} {c : α → PyData} {xs : List α} (hal : PySem.W.AllAlike (xs.map c)) (hk : PySem.W.Sortable (xs.map c)) (hd : ∀ x ∈ xs, (c x).depth ≤ 60) (hu : X.A.units + 64 < cLine) : CallR X (.builtin "sorted") (rSrt c xs) := by
  intro pins s σ H vs us Q I r h
  obtain ⟨l, ws, rfl, hl, hz, HF, hf, hr, q⟩ := h
  obtain ⟨u, rfl, ru⟩ := vals1 r
  cases ru
  obtain ⟨its, o, T, n, rv, ho, hc, hT, hdt⟩ : ∃ (its : List Value) (o : Obj) (T : String) (n : Nat), Vals ws its ∧ s.heap.get? l = some o ∧ o.cls = .type T ∧ (T = "list" ∨ T = "tuple") ∧ o.data = .seq its.toArray n := by
    rcases hl with hl | hl
    · obtain ⟨_, its, n, rv, ho⟩ := I.hok l _ hl
      exact ⟨its, _, "list", n, rv, ho, rfl, .inl rfl, rfl⟩
    · obtain ⟨_, its, rv, ho⟩ := I.hok l _ hl
      obtain ⟨o, h1, h2, n, h3⟩ := ho
      exact ⟨its, o, "tuple", n, rv, h1, h2, .inr rfl, h3⟩
  have e1 := each_of_rps hr rv
  have hlen : xs.length = ws.length := by
    have := hr.length
    rw [List.length_map] at this
    exact this.symm
  have e2 : PySem.W.EachIs (fun v b => ∃ as, Reads s.heap v (c b) as) its xs := e1.mono fun u x ⟨v, r1, h1⟩ => Dp.reads I _ _ _ ((h1.mono hf).dp (K := X.K)) r1
  refine Srt.sorted_seq_data (enc := c) ho hc hT hdt e1 e2 hal hk (by rw [hlen]; exact hz) (fun x hx => by have := hd x hx; omega) fun out ho' eo => ?_
  · obtain ⟨ys, r2, h2⟩ := rps_of_each eo
    obtain ⟨ep, he'⟩ := PyProof.Rows.sortedAll_at s.heap its out.toArray
    have hl2 : ys.length = ws.length := by rw [r2.length, ho', hlen]
    exact ⟨.ref _, upd H (s.heap.objs.size + 1) (.lst ys), I.laid (t' := s.toks) (fun _ _ => PyProof.Rows.sortedAll_old) (Nat.le_succ _) ⟨by rw [hl2]; exact hz, out, ep, r2, he'⟩, rfl, q _ ys (I.hok.fresh (Nat.le_succ _)) hl2 h2⟩
section
variable {X : Cx} {ρ ρ' : En} {ω ω' ω1 ω2 ω3 : Sto} {d d1 d2 : D} {e a b : Expr} {es : List Expr} {pos p : Pos} {k : Nat} {α : Type} {c : α → PyData} {xs : List α}
theorem dn_srt (hr : Room k X.A) (hal : PySem.W.AllAlike (xs.map c)) (hk : PySem.W.Sortable (xs.map c)) (hd : ∀ x ∈ xs, (c x).depth ≤ 60) (hm : X.mg "sorted" = none) (A : DE X a ρ ω d1 ω1) (L : IsL ω1 d1 (xs.map c) ∨ d1 = .v (.tuple (xs.map c))) (hg : Gl X "sorted" := by rfl) (hs : Sg X a [] pos := by exact ⟨rfl, rfl⟩) :
    DN X (.Call (.Name "sorted" p) [a] [] pos) ρ ω (.lst ((sortBy c xs).map c)) ω1 :=
  dn_callB (cr_srt hal hk hd hr.units) hs hg hm (by decide +kernel) (da_one A hs.he) fun Z HF H σ vs Q S r q => by
    obtain ⟨x, _, rfl, r1, rfl⟩ := r
    obtain ⟨l, us, rfl, h1, h2, h3⟩ : ∃ l us, x = .ref l ∧ (H l = some (.lst us) ∨ H l = some (.tup us)) ∧ us.length ≤ sizeLine ∧ Rps HF (xs.map c) us := by
      rcases L with L | rfl
      · obtain ⟨l, us, rfl, h1, h2, h3⟩ := L.at S r1
        exact ⟨l, us, rfl, .inl h1, h2, h3⟩
      · obtain ⟨l, us, rfl, h1, h2, h3⟩ := r1
        exact ⟨l, us, rfl, .inr (S.fh _ _ h1), h2, h3⟩
    exact ⟨l, us, rfl, h1, h2, HF, S.fh, h3, fun p us' hp hl hs' => q p HF _ (Same.refl _) (S.newC hp (cell_lst (by rw [hl]; exact h2) hs'))⟩
theorem dn_sortedL (hr : Room k X.A) (hal : AlikeC c) (hk : SortC c) (hd : ∀ x, (c x).depth ≤ 60) (hm : X.mg "sorted" = none) (A : DE X a ρ ω d1 ω1) (L : IsL ω1 d1 (xs.map c)) (hg : Gl X "sorted" := by rfl) (hs : Sg X a [] pos := by exact ⟨rfl, rfl⟩) :
    DN X (.Call (.Name "sorted" p) [a] [] pos) ρ ω (.lst ((sortBy c xs).map c)) ω1 :=
  dn_srt hr (fun d hd d' hd' => by
    obtain ⟨x, _, rfl⟩ := List.mem_map.mp hd
    obtain ⟨y, _, rfl⟩ := List.mem_map.mp hd'
    exact hal x y) (hk.elim (fun h => .inl fun d hd => by
      obtain ⟨x, _, rfl⟩ := List.mem_map.mp hd
      exact h x) fun h => .inr fun d hd => by
      obtain ⟨x, _, rfl⟩ := List.mem_map.mp hd
      exact h x) (fun x _ => hd x) hm A (.inl L) hg hs
theorem dn_sortedT (hr : Room k X.A) (hal : AlikeC c) (hk : SortC c) (hd : ∀ x, (c x).depth ≤ 60) (hm : X.mg "sorted" = none) (A : DE X a ρ ω (.v (cT c xs)) ω1) (hg : Gl X "sorted" := by rfl) (hs : Sg X a [] pos := by exact ⟨rfl, rfl⟩) :
    DN X (.Call (.Name "sorted" p) [a] [] pos) ρ ω (.lst ((sortBy c xs).map c)) ω1 :=
  dn_srt hr (fun d hd d' hd' => by
    obtain ⟨x, _, rfl⟩ := List.mem_map.mp hd
    obtain ⟨y, _, rfl⟩ := List.mem_map.mp hd'
    exact hal x y) (hk.elim (fun h => .inl fun d hd => by
      obtain ⟨x, _, rfl⟩ := List.mem_map.mp hd
      exact h x) fun h => .inr fun d hd => by
      obtain ⟨x, _, rfl⟩ := List.mem_map.mp hd
      exact h x) (fun x _ => hd x) hm A (.inr rfl) hg hs
/-- data of any form, their forms looked at -/
def sortP (xs : List PyData) : Option (List PyData) := if (xs.all fun x => xs.all fun y => PySem.W.alike x y) = true ∧ (xs.all fun x => match x with | .tuple (_ :: _) => true | _ => false) = true ∧ (xs.all fun x => decide (x.depth ≤ 60)) = true then some (sortBy cP xs) else none
theorem sortP_ok {xs ys : List PyData} (h : sortP xs = some ys) : ys = sortBy cP xs ∧ PySem.W.AllAlike (xs.map cP) ∧ PySem.W.Sortable (xs.map cP) ∧ ∀ x ∈ xs, (cP x).depth ≤ 60 := by
  unfold sortP at h
  split at h
  · rename_i hc
    obtain ⟨h1, h2, h3⟩ := hc
    rw [List.all_eq_true] at h1 h2 h3
    refine ⟨(some_i h).symm, fun d hd d' hd' => ?_, .inl fun d hd => ?_, fun x hx => of_decide_eq_true (h3 x hx)⟩
    · rw [List.map_id'] at hd hd'
      exact List.all_eq_true.mp (h1 d hd) d' hd'
    · rw [List.map_id'] at hd
      have := h2 d hd
      split at this
      · rename_i y r
        exact ⟨y, r, rfl⟩
      · cases this
  · cases h
theorem dn_sortedLP {xs ys : List PyData} (hr : Room k X.A) (h : sortP xs = some ys) (hm : X.mg "sorted" = none) (A : DE X a ρ ω d1 ω1) (L : IsL ω1 d1 (xs.map cP)) (hg : Gl X "sorted" := by rfl) (hs : Sg X a [] pos := by exact ⟨rfl, rfl⟩) :
    DN X (.Call (.Name "sorted" p) [a] [] pos) ρ ω (.lst (ys.map cP)) ω1 := by
  obtain ⟨rfl, h1, h2, h3⟩ := sortP_ok h
  exact dn_srt hr h1 h2 h3 hm A (.inl L) hg hs
theorem dn_sortedTP {xs ys : List PyData} (hr : Room k X.A) (h : sortP xs = some ys) (hm : X.mg "sorted" = none) (A : DE X a ρ ω (.v (cT cP xs)) ω1) (hg : Gl X "sorted" := by rfl) (hs : Sg X a [] pos := by exact ⟨rfl, rfl⟩) :
    DN X (.Call (.Name "sorted" p) [a] [] pos) ρ ω (.lst (ys.map cP)) ω1 := by
  obtain ⟨rfl, h1, h2, h3⟩ := sortP_ok h
  exact dn_srt hr h1 h2 h3 hm A (.inr rfl) hg hs
end
end Q
end

section
set_option Elab.async false
set_option linter.all false
set_option maxRecDepth 100000
set_option maxHeartbeats 1000000
/-! LAYER 7: options, data looked into, isinstance, order of data, zip, text * int, int(text), str(int). -/
namespace Q
open PySem L2 TL

/-! ### data looked into -/
def asI : PyData → Option Int
  | .int i => some i
  | _ => none
def asS : PyData → Option Wd
  | .str x => some x.cps.toList
  | _ => none
def asT : PyData → Option (List PyData)
  | .tuple ps => some ps
  | _ => none
def asL : PyData → Option (List PyData)
  | .list ps => some ps
  | _ => none
theorem cL_P {α : Type} {c : α → PyData} {xs : List α} : D.v (cL c xs) = D.v (cL cP (xs.map c)) := congrArg (fun l => D.v (.list l)) (List.map_id' (xs.map c)).symm
theorem cT_P {α : Type} {c : α → PyData} {xs : List α} : D.v (cT c xs) = D.v (cT cP (xs.map c)) := congrArg (fun l => D.v (.tuple l)) (List.map_id' (xs.map c)).symm
theorem map_cP (ps : List PyData) : ps.map cP = ps := List.map_id' ps
section
variable {X : Cx} {ρ ρ' : En} {ω ω' ω1 ω2 ω3 : Sto} {d d1 d2 : D} {e a b : Expr} {es : List Expr} {pos p : Pos} {α β : Type} {c : α → PyData} {xs : List α}
theorem de_get {o : Option α} {x : α} (A : DE X e ρ ω (.v (cO c o)) ω1) (h : o = some x) : DE X e ρ ω (.v (c x)) ω1 := by subst h; exact A
theorem de_asI {q : PyData} {i : Int} (A : DE X e ρ ω (.v q) ω1) (h : asI q = some i) : DE X e ρ ω (.v (cI i)) ω1 := by
  cases q <;> first | (cases h) | skip
  exact A
theorem de_asS {q : PyData} {w : Wd} (A : DE X e ρ ω (.v q) ω1) (h : asS q = some w) : DE X e ρ ω (.v (cS w)) ω1 := by
  cases q <;> first | (cases h; done) | skip
  cases h
  exact de_is A (congrArg (fun y => D.v (.str y)) (S_of _))
theorem de_asT {q : PyData} {ps : List PyData} (A : DE X e ρ ω (.v q) ω1) (h : asT q = some ps) : DE X e ρ ω (.v (cT cP ps)) ω1 := by
  cases q <;> first | (cases h; done) | skip
  cases h
  exact de_is A (congrArg (fun l => D.v (.tuple l)) (map_cP ps).symm)
theorem de_asL {q : PyData} {ps : List PyData} (A : DE X e ρ ω (.v q) ω1) (h : asL q = some ps) : DE X e ρ ω (.v (cL cP ps)) ω1 := by
  cases q <;> first | (cases h; done) | skip
  cases h
  exact de_is A (congrArg (fun l => D.v (.list l)) (map_cP ps).symm)
end

/-! ### isinstance -/
def tyN : PyData → String
  | .none => "NoneType"
  | .bool _ => "bool"
  | .int _ => "int"
  | .str _ => "str"
  | .list _ => "list"
  | .tuple _ => "tuple"
  | .dict _ => "dict"
def isaInt : PyData → Bool
  | .int _ => true
  | .bool _ => true
  | _ => false
def isaBool : PyData → Bool
  | .bool _ => true
  | _ => false
def isaStr : PyData → Bool
  | .str _ => true
  | _ => false
def isaTuple : PyData → Bool
  | .tuple _ => true
  | _ => false
def isaList : PyData → Bool
  | .list _ => true
  | _ => false
theorem tyx_of {K : PySem.W.Frag} {H : Hp} {q : PyData} {x : V} (r : Rp H q x) : TyX K H x (.type (tyN q)) := by
  cases q with
  | none => cases (show x = .non from r); exact .base .non
  | bool k => cases (show x = .bl k from r); exact .base (.bl k)
  | int i => cases (show x = .int i from r); exact .base (.int i)
  | str y => obtain ⟨rfl, _⟩ := r; exact .base (.str y)
  | list ps => obtain ⟨a, vs, rfl, h, _⟩ := r; exact .base (.lst h)
  | tuple ps => obtain ⟨a, vs, rfl, h, _⟩ := r; exact .base (.tup h)
  | dict kvs => exact (show False from r).elim
section
variable {X : Cx} {ρ ρ' : En} {ω ω' ω1 ω2 ω3 : Sto} {d d1 d2 : D} {e a b : Expr} {es : List Expr} {pos p p2 : Pos} {α β : Type} {c : α → PyData} {xs : List α}
theorem pe_tyN {x : Str} {id : String} (hg : Gl X x) (hm : X.mg x = none) (hv : bootBuiltins x = some (.type id)) (hn : x ≠ "__name__" := by decide) (hd : (x == ("__debug__" : Str)) = false := by decide) : PE X (.Name x pos) (tC (.ty id)) :=
  ⟨fun pins s σ H Q I h => ld_blt I hg hm hv ⟨.ty id, H, I, rfl, h⟩ hn hd⟩
theorem de_isi {T : Str} {id : String} {q : PyData} {k : Bool} (hk : kitB (tyN q) id = some k) (hi : X.mg "isinstance" = none) (hm : X.mg T = none) (A : DE X a ρ ω (.v q) ω1) (hgT : Gl X T) (hv : bootBuiltins T = some (.type id))
    (hn : T ≠ "__name__") (hd : (T == ("__debug__" : Str)) = false) (hg : Gl X "isinstance" := by rfl)
    (he : starEach [a, .Name T p2] X.env = (false, eval a X.env) :: starEach [.Name T p2] X.env := by rfl) (hpl : (backTo pos (starEach [.Name T p2] X.env)).any (·.1) = false := by rfl)
    (he2 : starEach [.Name T p2] X.env = (false, eval (.Name T p2) X.env) :: starEach [] X.env := by rfl) :
    DE X (.Call (.Name "isinstance" p) [a, .Name T p2] [] pos) ρ ω (.v (cB k)) ω1 :=
  pe_mono (pe_callB call_isi hg hi PyProof.Rows.boot_isinstance (pa_cons A (pa_cons (pe_tyN hgT hm hv hn hd) pa_nil he2) he) (by decide) (by decide) he hpl) fun σ H Q ⟨Z, HF, S, q'⟩ =>
    ⟨Z, HF, S, fun v HF1 H1 e1 S1 r1 => ⟨v, .ty id, _, _, k, rfl, .ty id, tyx_of ((RD.rp r1).mono S1.fh), kit_ty hk, q' _ HF1 H1 e1 S1 rfl⟩⟩
theorem kb_str (q : PyData) : kitB (tyN q) "str" = some (isaStr q) := by cases q <;> (simp only [tyN, isaStr]; decide +kernel)
theorem kb_int (q : PyData) : kitB (tyN q) "int" = some (isaInt q) := by cases q <;> (simp only [tyN, isaInt]; decide +kernel)
theorem kb_bool (q : PyData) : kitB (tyN q) "bool" = some (isaBool q) := by cases q <;> (simp only [tyN, isaBool]; decide +kernel)
theorem kb_tuple (q : PyData) : kitB (tyN q) "tuple" = some (isaTuple q) := by cases q <;> (simp only [tyN, isaTuple]; decide +kernel)
theorem kb_list (q : PyData) : kitB (tyN q) "list" = some (isaList q) := by cases q <;> (simp only [tyN, isaList]; decide +kernel)
theorem de_isiStr {q : PyData} (hi : X.mg "isinstance" = none) (hm : X.mg "str" = none) (A : DE X a ρ ω (.v q) ω1) (hgT : Gl X "str" := by rfl) (hg : Gl X "isinstance" := by rfl)
    (he : starEach [a, .Name "str" p2] X.env = (false, eval a X.env) :: starEach [.Name "str" p2] X.env := by rfl) (hpl : (backTo pos (starEach [.Name "str" p2] X.env)).any (·.1) = false := by rfl)
    (he2 : starEach [.Name "str" p2] X.env = (false, eval (.Name "str" p2) X.env) :: starEach [] X.env := by rfl) :
    DE X (.Call (.Name "isinstance" p) [a, .Name "str" p2] [] pos) ρ ω (.v (cB (isaStr q))) ω1 := de_isi (kb_str q) hi hm A hgT PyProof.Rows.boot_str (by decide) (by decide) hg he hpl he2
theorem de_isiInt {q : PyData} (hi : X.mg "isinstance" = none) (hm : X.mg "int" = none) (A : DE X a ρ ω (.v q) ω1) (hgT : Gl X "int" := by rfl) (hg : Gl X "isinstance" := by rfl)
    (he : starEach [a, .Name "int" p2] X.env = (false, eval a X.env) :: starEach [.Name "int" p2] X.env := by rfl) (hpl : (backTo pos (starEach [.Name "int" p2] X.env)).any (·.1) = false := by rfl)
    (he2 : starEach [.Name "int" p2] X.env = (false, eval (.Name "int" p2) X.env) :: starEach [] X.env := by rfl) :
    DE X (.Call (.Name "isinstance" p) [a, .Name "int" p2] [] pos) ρ ω (.v (cB (isaInt q))) ω1 := de_isi (kb_int q) hi hm A hgT PyProof.Rows.boot_int (by decide) (by decide) hg he hpl he2
theorem de_isiBool {q : PyData} (hi : X.mg "isinstance" = none) (hm : X.mg "bool" = none) (A : DE X a ρ ω (.v q) ω1) (hgT : Gl X "bool" := by rfl) (hg : Gl X "isinstance" := by rfl)
    (he : starEach [a, .Name "bool" p2] X.env = (false, eval a X.env) :: starEach [.Name "bool" p2] X.env := by rfl) (hpl : (backTo pos (starEach [.Name "bool" p2] X.env)).any (·.1) = false := by rfl)
    (he2 : starEach [.Name "bool" p2] X.env = (false, eval (.Name "bool" p2) X.env) :: starEach [] X.env := by rfl) :
    DE X (.Call (.Name "isinstance" p) [a, .Name "bool" p2] [] pos) ρ ω (.v (cB (isaBool q))) ω1 := de_isi (kb_bool q) hi hm A hgT (by decide +kernel) (by decide) (by decide) hg he hpl he2
theorem de_isiTuple {q : PyData} (hi : X.mg "isinstance" = none) (hm : X.mg "tuple" = none) (A : DE X a ρ ω (.v q) ω1) (hgT : Gl X "tuple" := by rfl) (hg : Gl X "isinstance" := by rfl)
    (he : starEach [a, .Name "tuple" p2] X.env = (false, eval a X.env) :: starEach [.Name "tuple" p2] X.env := by rfl) (hpl : (backTo pos (starEach [.Name "tuple" p2] X.env)).any (·.1) = false := by rfl)
    (he2 : starEach [.Name "tuple" p2] X.env = (false, eval (.Name "tuple" p2) X.env) :: starEach [] X.env := by rfl) :
    DE X (.Call (.Name "isinstance" p) [a, .Name "tuple" p2] [] pos) ρ ω (.v (cB (isaTuple q))) ω1 := de_isi (kb_tuple q) hi hm A hgT PyProof.Rows.boot_tuple (by decide) (by decide) hg he hpl he2
end

/-! ### comparisons -/
def ltP (x y : PyData) : Option Bool := if PySem.W.alike x y = true ∧ isN x = false ∧ x.depth ≤ 64 then some (PySem.W.dataLt x y) else none
def rLtD (K : PySem.W.Frag) : R2 := fun x y H Q => ∃ d e, Dp K H x d ∧ Dp K H y e ∧ PySem.W.alike d e = true ∧ d ≠ .none ∧ d.depth ≤ 64 ∧ Q (.bl (PySem.W.dataLt d e)) H
theorem op_ltD {X : Cx} (hu : X.A.units + 64 < cLine) : OpR X (compareOp .Lt) (rLtD X.K) := by
  intro pins s σ H x y v u Q I rx ry h
  obtain ⟨d, e, hd, he, ha, hn, hz, q⟩ := h
  obtain ⟨as, r1⟩ := Dp.reads I d x v hd rx
  obtain ⟨bs, r2⟩ := Dp.reads I e y u he ry
  exact PySem.W.lt_data r1 r2 ha hn (Nat.lt_of_le_of_lt (Nat.add_le_add_left (Nat.le_trans (Nat.min_le_left _ _) hz) _) hu) ⟨.bl _, H, I, rfl, q⟩
/-- a text of one sign -/
def oneW : Wd → Option Nat
  | [z] => some z
  | _ => none
theorem oneW_some {w : Wd} {z : Nat} (h : oneW w = some z) : w = [z] := by
  unfold oneW at h
  split at h
  · cases h; rfl
  · cases h
section
variable {X : Cx} {ρ ρ' : En} {ω ω' ω1 ω2 ω3 : Sto} {d d1 d2 : D} {i : Int} {u w : Wd} {x y : PyData} {z : Nat} {α : Type} {c : α → PyData}
theorem c_ltP {k : Bool} (hu : X.A.units + 64 < cLine) (h : ltP x y = some k) : CmpD X .Lt ρ ω (.v x) (.v y) k := by
  unfold ltP at h
  split at h
  · rename_i hc
    obtain ⟨h1, h2, h3⟩ := hc
    cases h
    exact ⟨_, op_ltD hu, fun Z HF H σ v v' Q S r1 r2 q => ⟨x, y, ((RD.rp r1).mono S.fh).dp, ((RD.rp r2).mono S.fh).dp, h1, (fun e => by rw [e] at h2; cases h2), h3, q⟩⟩
  · cases h
theorem c_inW (h : oneW u = some z) : CmpD X .In ρ ω (.v (cS u)) (.v (cS w)) (decide (z ∈ w)) := by
  cases oneW_some h
  exact c_inS
theorem c_ninW (h : oneW u = some z) : CmpD X .NotIn ρ ω (.v (cS u)) (.v (cS w)) (!decide (z ∈ w)) := by
  cases oneW_some h
  exact c_ninS
theorem c_isNo {o : Option α} (h : isN (cO c o) = o.isNone) : CmpD X .Is ρ ω (.v (cO c o)) (.v .none) o.isNone := by rw [← h]; exact c_isN
theorem c_notNo {o : Option α} (h : isN (cO c o) = o.isNone) : CmpD X .IsNot ρ ω (.v (cO c o)) (.v .none) (!o.isNone) := by rw [← h]; exact c_notN
def sV (u : Wd) : V := .str (S u)
/-! in a written tuple -/
theorem inV_map {f : α → PyData} {g : α → V} (hr : ∀ (H : Hp) x v, Rp H (f x) v → v = g x) : ∀ {xs : List α} {vs : List V} {H : Hp}, Rps H (xs.map f) vs → vs = xs.map g
  | [], _, _, h => h
  | x :: xs, _, _, h => by
    obtain ⟨v, r, rfl, h1, h2⟩ := h
    rw [hr _ _ _ h1, inV_map hr h2]; rfl
theorem inV_ints {i : Int} {is : List Int} : inV (.int i) (is.map V.int) = decide (i ∈ is) := by
  unfold inV
  rw [List.any_map]
  induction is with
  | nil => rfl
  | cons j is ih =>
    rw [List.any_cons, ih]
    have e : (((fun y => eqV y (V.int i)) ∘ V.int) j) = decide (i = j) := by
      show (j == i) = _
      by_cases h : i = j
      · subst h; simp
      · rw [decide_eq_false h]; exact beq_false_of_ne (Ne.symm h)
    rw [e, ← Bool.decide_or]
    simp
theorem inV_strs {w : Wd} {ws : List Wd} : inV (.str (S w)) (ws.map sV) = decide (w ∈ ws) := by
  unfold inV
  rw [List.any_map]
  induction ws with
  | nil => rfl
  | cons j is ih =>
    rw [List.any_cons, ih]
    have e : (((fun y => eqV y (V.str (S w))) ∘ sV) j) = decide (w = j) := by
      show (S j == S w) = _
      by_cases h : w = j
      · subst h; simp
      · rw [decide_eq_false h]; exact beq_false_of_ne (fun e => h (S_inj e).symm)
    rw [e, ← Bool.decide_or]
    simp
theorem c_inTI {is : List Int} : CmpD X .In ρ ω (.v (cI i)) (.v (.tuple (is.map cI))) (decide (i ∈ is)) := ⟨_, op_in_seq, fun Z HF H σ x y Q S r1 r2 q => by
  cases (show x = .int i from r1)
  obtain ⟨a, vs, rfl, h1, h2, h3⟩ := r2
  have e := inV_map (f := cI) (g := V.int) (fun _ _ _ h => h) h3
  subst e
  exact ⟨a, _, rfl, .inr (SqT.of (S.fh _ _ h1)), rfl, by simp [flatV], by rw [inV_ints]; exact q⟩⟩
theorem c_ninTI {is : List Int} : CmpD X .NotIn ρ ω (.v (cI i)) (.v (.tuple (is.map cI))) (!decide (i ∈ is)) := ⟨_, op_notIn_seq, fun Z HF H σ x y Q S r1 r2 q => by
  cases (show x = .int i from r1)
  obtain ⟨a, vs, rfl, h1, h2, h3⟩ := r2
  have e := inV_map (f := cI) (g := V.int) (fun _ _ _ h => h) h3
  subst e
  exact ⟨a, _, rfl, .inr (SqT.of (S.fh _ _ h1)), rfl, by simp [flatV], by rw [inV_ints]; exact q⟩⟩
theorem c_inTS {ws : List Wd} : CmpD X .In ρ ω (.v (cS w)) (.v (.tuple (ws.map cS))) (decide (w ∈ ws)) := ⟨_, op_in_seq, fun Z HF H σ x y Q S r1 r2 q => by
  obtain ⟨rfl, _, _⟩ := RD.word r1
  obtain ⟨a, vs, rfl, h1, h2, h3⟩ := r2
  have e := inV_map (f := cS) (g := sV) (fun _ _ _ h => h.1) h3
  subst e
  exact ⟨a, _, rfl, .inr (SqT.of (S.fh _ _ h1)), rfl, by simp [flatV, sV], by rw [inV_strs]; exact q⟩⟩
theorem c_ninTS {ws : List Wd} : CmpD X .NotIn ρ ω (.v (cS w)) (.v (.tuple (ws.map cS))) (!decide (w ∈ ws)) := ⟨_, op_notIn_seq, fun Z HF H σ x y Q S r1 r2 q => by
  obtain ⟨rfl, _, _⟩ := RD.word r1
  obtain ⟨a, vs, rfl, h1, h2, h3⟩ := r2
  have e := inV_map (f := cS) (g := sV) (fun _ _ _ h => h.1) h3
  subst e
  exact ⟨a, _, rfl, .inr (SqT.of (S.fh _ _ h1)), rfl, by simp [flatV, sV], by rw [inV_strs]; exact q⟩⟩
end
end Q
end

section
set_option Elab.async false
set_option linter.all false
set_option maxRecDepth 100000
set_option maxHeartbeats 1000000
/-! LAYER 8: zip, slices and sums of tuples, text * int, int(text), str(int), extend. -/
namespace Q
open PySem L2 TL
section
variable {X : Cx} {ρ ρ' : En} {ω ω' ω1 ω2 ω3 : Sto} {d d1 d2 : D} {e a b tg : Expr} {es : List Expr} {pos p p2 apos : Pos} {α β : Type} {c : α → PyData} {xs ys : List α}
theorem de_sliceTf {lo hi : Option Int} {lo' hi' : Option Expr} {p2 : Pos} {ps : List PyData} (A : DE X a ρ ω (.v (.tuple ps)) ω1) (B : DO X lo' ρ ω1 lo ω2) (C : DO X hi' ρ ω2 hi ω3) :
    DE X (.Subscript a (.Slice lo' hi' none p2) pos) ρ ω (.v (.tuple (cut ps lo hi))) ω3 :=
  pe_mono (pe_slice sl_tupA A B C) (te3 fun Z HF H σ x Q S r1 q => by
    obtain ⟨l, vs, rfl, h1, h2, h3⟩ := r1
    refine ⟨l, vs, rfl, SqT.of (S.fh _ _ h1), fun hc => ?_, fun _ p hp => ?_⟩
    · rw [h3.length] at hc
      refine q _ HF H (Same.refl _) S ⟨l, vs, rfl, h1, h2, ?_⟩
      have : cut ps lo hi = ps := by
        unfold cut
        rw [hc.1, hc.2, List.drop_zero, Nat.sub_zero, List.take_length]
      rw [this]; exact h3
    · obtain ⟨S2, e2⟩ := S.newF (.tup (cutV vs lo hi)) hp
      exact q _ _ _ e2 S2 ⟨p, _, rfl, upd_same, Nat.le_trans (cutV_length _ _ _) h2, (rps_cut h3 lo hi).mono e2⟩)
theorem de_sliceTt {lo hi : Option Int} {lo' hi' : Option Expr} {p2 : Pos} (A : DE X a ρ ω (.v (cT c xs)) ω1) (B : DO X lo' ρ ω1 lo ω2) (C : DO X hi' ρ ω2 hi ω3) :
    DE X (.Subscript a (.Slice lo' hi' none p2) pos) ρ ω (.v (cT c (cut xs lo hi))) ω3 := de_is (de_sliceTf A B C) (by rw [cut_map])
/-- t + u -/
theorem de_catTup {ps qs : List PyData} (A : DE X a ρ ω (.v (.tuple ps)) ω1) (B : DE X b ρ ω1 (.v (.tuple qs)) ω2) (hz : ps.length + qs.length ≤ sizeLine) : DE X (.BinOp a .Add b pos) ρ ω (.v (.tuple (ps ++ qs))) ω2 :=
  de_op op_catA A B fun Z HF H σ x y Q S r1 r2 q => by
    obtain ⟨l, vs, rfl, h1', h2, h3⟩ := r1
    obtain ⟨m, us, rfl, g1, g2, g3⟩ := r2
    have hl : vs.length + us.length ≤ sizeLine := by rw [h3.length, g3.length]; exact hz
    refine ⟨l, m, vs, us, rfl, rfl, SqT.of (S.fh _ _ h1'), SqT.of (S.fh _ _ g1), hl, fun z => ?_, fun _ z => ?_, fun _ _ p hp => ?_⟩
    · subst z
      have e : ps = [] := List.length_eq_zero_iff.mp h3.length.symm
      subst e
      exact q _ HF H (Same.refl _) S ⟨m, us, rfl, g1, g2, g3⟩
    · subst z
      have e : qs = [] := List.length_eq_zero_iff.mp g3.length.symm
      subst e
      exact q _ HF H (Same.refl _) S ⟨l, vs, rfl, h1', h2, by rw [List.append_nil]; exact h3⟩
    · obtain ⟨S2, e2⟩ := S.newF (.tup (vs ++ us)) hp
      exact q _ _ _ e2 S2 ⟨p, _, rfl, upd_same, by rw [List.length_append]; exact hl, (h3.append g3).mono e2⟩
theorem de_catTt (A : DE X a ρ ω (.v (cT c xs)) ω1) (B : DE X b ρ ω1 (.v (cT c ys)) ω2) (hz : xs.length + ys.length ≤ sizeLine) : DE X (.BinOp a .Add b pos) ρ ω (.v (cT c (xs ++ ys))) ω2 :=
  de_is (de_catTup A B (by rw [List.length_map, List.length_map]; exact hz)) (by rw [show cT c (xs ++ ys) = PyData.tuple (xs.map c ++ ys.map c) from by rw [← List.map_append]])
/-! zip of two tuples -/
theorem rps_zip {H : Hp} {ps : List PyData} {vs : List V} (r : Rps H ps vs) {i : Nat} {x : V} (h : vs[i]? = some x) : ∃ p, ps[i]? = some p ∧ Rp H p x := rps_at r h
theorem di_zip {elts : List Expr} {kk : Nat} {tpos : Pos} {e2 : Expr} {ps qs : List PyData} (hm : X.mg "zip" = none) (A : DE X e ρ ω (.v (.tuple ps)) ω1) (B : DE X e2 ρ ω1 (.v (.tuple qs)) ω2) (hg : Gl X "zip" := by rfl)
    (hs : starEach [e, e2] X.env = (false, eval e X.env) :: starEach [e2] X.env := by rfl) (hs2 : starEach [e2] X.env = (false, eval e2 X.env) :: starEach [] X.env := by rfl) (hpl : (backTo pos (starEach [e2] X.env)).any (·.1) = false := by rfl) :
    DI X (.Tuple elts kk tpos) (.Call (.Name "zip" p) [e, e2] [] pos) ρ ω ((ps.zip qs).map fun y => .v (.tuple [y.1, y.2])) ω2 :=
  pi_mono (RZ.pi_zipA hg hm (da_cons A (da_one B hs2) hs) hs hpl) fun σ H R ⟨Z, HF, S, q⟩ => ⟨Z, HF, S, fun v HF1 H1 e1 S1 r1 => by
    obtain ⟨x, _, rfl, r1, y, _, rfl, r2, rfl⟩ := r1
    obtain ⟨l, vs, rfl, h1, h2, h3⟩ := r1
    obtain ⟨m, us, rfl, g1, g2, g3⟩ := r2
    refine ⟨l, m, vs, us, rfl, .inr ⟨SqT.of (S1.fh _ _ h1), SqT.of (S1.fh _ _ g1), q _ HF1 H1 e1 S1 ⟨by rw [List.length_map, List.length_zip, ← h3.length]; exact Nat.le_trans (Nat.min_le_left _ _) h2, fun HF2 H2 k1 k2 i => ⟨fun hi => ?_, fun d hd => ?_⟩⟩⟩⟩
    · have hL : SqT X.K H2 l vs := SqT.of (k2 _ _ (k1 _ _ h1))
      have hM : SqT X.K H2 m us := SqT.of (k2 _ _ (k1 _ _ g1))
      refine ⟨vs, us, hL, hM, ?_⟩
      rw [List.length_map, List.length_zip, ← h3.length, ← g3.length] at hi
      rw [hi]
      by_cases hh : vs.length ≤ us.length
      · exact .inl (by rw [Nat.min_eq_left hh]; exact Nat.le_refl _)
      · exact .inr (by rw [Nat.min_eq_right (by omega)]; exact Nat.le_refl _)
    · have hL : SqT X.K H2 l vs := SqT.of (k2 _ _ (k1 _ _ h1))
      have hM : SqT X.K H2 m us := SqT.of (k2 _ _ (k1 _ _ g1))
      rw [List.getElem?_map] at hd
      cases hz : (ps.zip qs)[i]? with
      | none => rw [hz] at hd; cases hd
      | some y =>
        rw [hz] at hd
        cases (Option.some.inj hd)
        obtain ⟨z1, z2⟩ := List.getElem?_zip_eq_some.mp hz
        obtain ⟨x, x1, x2⟩ := h3.get z1
        obtain ⟨x', y1, y2⟩ := g3.get z2
        refine ⟨⟨vs, us, x, x', hL, hM, x1, y1⟩, fun y' H3 hy => .inr ?_⟩
        obtain ⟨T, u, u', rfl, hT, rfl, q1, q2⟩ := hy
        have e1 := q1 vs hL
        have e2 := q2 us hM
        rw [x1] at e1; rw [y1] at e2
        cases e1; cases e2
        have hTF : HF2 T = none := by
          cases hc : HF2 T with
          | none => rfl
          | some o => have := k2 _ _ hc; rw [hT] at this; cases this
        have sm : Same HF2 (upd HF2 T (.tup [x, x'])) := same_new hTF
        exact ⟨T, .tup [x, x'], hT, rfl, T, [x, x'], rfl, upd_same, by show 2 ≤ sizeLine; rw [sizeLine_eq]; decide, x, [x'], rfl, (x2.mono k1).mono sm, x', [], rfl, (y2.mono k1).mono sm, rfl⟩⟩
theorem di_zipT {elts : List Expr} {kk : Nat} {tpos : Pos} {e2 : Expr} {c1 : α → PyData} {c2' : β → PyData} {xs : List α} {ys : List β} (hm : X.mg "zip" = none) (A : DE X e ρ ω (.v (cT c1 xs)) ω1) (B : DE X e2 ρ ω1 (.v (cT c2' ys)) ω2) (hg : Gl X "zip" := by rfl)
    (hs : starEach [e, e2] X.env = (false, eval e X.env) :: starEach [e2] X.env := by rfl) (hs2 : starEach [e2] X.env = (false, eval e2 X.env) :: starEach [] X.env := by rfl) (hpl : (backTo pos (starEach [e2] X.env)).any (·.1) = false := by rfl) :
    DI X (.Tuple elts kk tpos) (.Call (.Name "zip" p) [e, e2] [] pos) ρ ω ((xs.zip ys).map fun y => .v (c2 c1 c2' y)) ω2 := by
  have h := di_zip (elts := elts) (kk := kk) (tpos := tpos) (p := p) (pos := pos) hm A B hg hs hs2 hpl
  rw [List.zip_map, List.map_map] at h
  exact h
/-! text * int -/
theorem flat_cps (x : Array Nat) : ∀ n : Nat, ((List.replicate n x).foldl (· ++ ·) #[]).toList = (List.replicate n x.toList).flatten := by
  have key : ∀ (l : List (Array Nat)) (acc : Array Nat), (l.foldl (· ++ ·) acc).toList = acc.toList ++ (l.map Array.toList).flatten := by
    intro l
    induction l with
    | nil => intro acc; simp
    | cons y l ih => intro acc; rw [List.foldl_cons, ih]; simp
  intro n
  rw [key, List.map_replicate]; simp
def rMulS : R2 := fun x y H Q => ∃ (w : Wd) (n : Int), x = .str (S w) ∧ y = .int n ∧ -(2 ^ 62) ≤ n ∧ w.length * n.toNat ≤ 1000000 ∧ n ≤ 1000000 ∧ Q (.str (S (List.replicate n.toNat w).flatten)) H
theorem op_mulS : OpR X (binaryOp .Mult) rMulS := by
  intro pins s σ H x y v u Q I rx ry h
  obtain ⟨w, n, rfl, rfl, h0, h1, h2, q⟩ := h
  obtain ⟨t, rfl⟩ := rx
  obtain ⟨t', rfl⟩ := ry
  have hs : (S w).length = w.length := S_len w
  refine PySem.P.mul_str ?_ (fun h3 h4 => ?_) (fun h3 h4 => ?_) ?_
  · rw [decide_eq_false (by omega), decide_eq_false (by omega)]; rfl
  · rw [hs]
    intro hc
    have hn : (0 : Int) < n := by omega
    have : (9223372036854775807 : Int) / n ≥ 1000000 := by
      have : (1000000 : Int) * n ≤ 9223372036854775807 := by
        have : (1000000 : Int) * n ≤ 1000000 * 1000000 := Int.mul_le_mul_of_nonneg_left h2 (by decide)
        omega
      exact (Int.le_ediv_iff_mul_le hn).mpr this
    have hl : (w.length : Int) ≤ 1000000 := by
      have : w.length * 1 ≤ w.length * n.toNat := Nat.mul_le_mul_left _ (by omega)
      omega
    have hh : (2 ^ 63 - 1 : Int) = 9223372036854775807 := by decide
    rw [hh] at hc
    omega
  · rw [hs]
    unfold Builtin.Str.tooLong
    have : ¬ w.length * n.toNat > sizeLine := by rw [sizeLine_eq]; omega
    simp [this]
  · by_cases hn : n < 1
    · rw [if_pos hn]
      have e : n.toNat = 0 := by omega
      rw [e] at q
      exact ⟨by decide, .str _, H, I.tok _, ⟨_, rfl⟩, q⟩
    · rw [if_neg hn]
      by_cases h5 : (n == 1 || (S w).length == 0) = true
      · rw [if_pos h5]
        have e : (List.replicate n.toNat w).flatten = w := by
          rw [Bool.or_eq_true] at h5
          rcases h5 with h5 | h5
          · have : n = 1 := by simpa using h5
            subst this; simp
          · rw [hs] at h5
            have : w = [] := by simpa using h5
            subst this; simp
        rw [e] at q
        exact ⟨.str _, H, I, ⟨_, rfl⟩, q⟩
      · rw [if_neg h5]
        have e : (⟨(List.replicate n.toNat (S w).cps).foldl (· ++ ·) #[]⟩ : Str) = S (List.replicate n.toNat w).flatten := by
          rw [S_of ⟨_⟩, flat_cps, S_list]
        rw [e]
        refine ⟨?_, .str _, H, I.tok _, ⟨_, rfl⟩, q⟩
        rw [S_len, List.length_flatten, List.map_replicate, List.sum_replicate_nat, sizeLine_eq, Nat.mul_comm]
        omega
theorem okW_rep {w : Wd} (h : okW w = true) (n : Nat) : okW (List.replicate n w).flatten = true := by
  induction n with
  | zero => rfl
  | succ n ih => rw [List.replicate_succ, List.flatten_cons]; exact okW_app h ih
theorem de_mulS {w : Wd} {n : Int} (A : DE X a ρ ω (.v (cS w)) ω1) (B : DE X b ρ ω1 (.v (cI n)) ω2) (h : w.length * n.toNat ≤ 1000000 ∧ n ≤ 1000000 ∧ -1000000 ≤ n) : DE X (.BinOp a .Mult b pos) ρ ω (.v (cS (List.replicate n.toNat w).flatten)) ω2 :=
  de_op op_mulS A B fun Z HF H σ x y Q S' r1 r2 q => by
    obtain ⟨rfl, h1, h2⟩ := RD.word r1
    refine ⟨w, n, rfl, r2, by omega, h.1, h.2.1, q _ HF H (Same.refl _) S' (rdW ?_ (okW_rep h2 _))⟩
    rw [List.length_flatten, List.map_replicate, List.sum_replicate_nat, sizeLine_eq, Nat.mul_comm]
    omega
/-! int(text), str(int) -/
def intW (w : Wd) : Option Int := if w.length ≤ 640 then PySem.intText? (S w) else none
def strI (i : Int) : Wd := (toString i).toList.map Char.toNat
theorem strI_S (i : Int) : (Str.ofString (toString i)) = S (strI i) := Str.ofString_eq_toList _
theorem strI_ok (i : Int) : okW (strI i) = true := by
  unfold okW strI
  rw [List.all_map, List.all_eq_true]
  intro c _
  have := c.valid
  show decide (c.toNat < 0x110000) = true
  refine decide_eq_true ?_
  have h : c.toNat = c.val.toNat := rfl
  rw [h]
  rcases this with h | ⟨_, h⟩ <;> omega
theorem strI_len {i : Int} (h : i.natAbs.log2 < 1920) : (strI i).length ≤ sizeLine := by
  have := int_text_fits h
  rwa [strI_S, S_len] at this
theorem de_intS {w : Wd} {i : Int} (hm : X.mg "int" = none) (A : DE X a ρ ω (.v (cS w)) ω1) (h : intW w = some i) (hg : Gl X "int" := by rfl) (hs : Sg X a [] pos := by exact ⟨rfl, rfl⟩) : DE X (.Call (.Name "int" p) [a] [] pos) ρ ω (.v (cI i)) ω1 :=
  de_callT call_int_str hs hg hm (by decide +kernel) (da_one A hs.he) fun Z HF H σ vs Q S' r q => by
    obtain ⟨x, _, rfl, r1, rfl⟩ := r
    obtain ⟨rfl, h1, h2⟩ := RD.word r1
    unfold intW at h
    split at h
    · exact ⟨_, i, rfl, h, by rw [S_len]; assumption, q _ HF H (Same.refl _) S' rfl⟩
    · cases h
theorem de_strI {i : Int} (hm : X.mg "str" = none) (A : DE X a ρ ω (.v (cI i)) ω1) (h : i.natAbs.log2 < 1920) (hg : Gl X "str" := by rfl) (hs : Sg X a [] pos := by exact ⟨rfl, rfl⟩) : DE X (.Call (.Name "str" p) [a] [] pos) ρ ω (.v (cS (strI i))) ω1 :=
  de_callT call_str_int hs hg hm (by decide +kernel) (da_one A hs.he) fun Z HF H σ vs Q S' r q => by
    obtain ⟨x, _, rfl, r1, rfl⟩ := r
    exact ⟨i, by rw [show x = .int i from r1], h, by rw [strI_S]; exact q _ HF H (Same.refl _) S' (rdW (strI_len h) (strI_ok i))⟩
/-! xs.extend(ys) -/
theorem de_extend (j : Nat) {ω' : Sto} {l : Addr} {ps qs : List PyData} (A : DE X a ρ ω (.adr l) ω1) (B : DE X b ρ ω1 d2 ω2) (L : IsL ω2 d2 qs) (hz : ps.length + qs.length ≤ sizeLine) (hj : ω2[j]? = some (l, .lst ps) := by rfl) (hω : ω2.set j (l, .lst (ps ++ qs)) = ω' := by rfl) (hj1 : ∃ ps', ω1[j]? = some (l, .lst ps') := by exact ⟨_, rfl⟩)
    (hbase : attributeBase a "extend" X.env (eval a X.env) = eval a X.env := by rfl)
    (hfew : ((backTo pos (starEach [b] X.env)).all (fun x => !x.1) && (backToKw pos (keywordEach [] X.env)).all (fun x => x.1.isSome) && decide ([b].length + ([] : List Keyword).length + (if ([] : List Keyword).isEmpty then 0 else 1) < 30)) = true := by rfl)
    (hline : (apos.endLine == pos.line) = true := by rfl) (hs : starEach [b] X.env = (false, eval b X.env) :: starEach [] X.env := by rfl) (hplain : (backTo pos (starEach [] X.env)).any (·.1) = false := by rfl) :
    DE X (.Call (.Attribute a "extend" apos) [b] [] pos) ρ ω (.v .none) ω' :=
  pe_mono (pe_bm PySem.F.plainAttrs_list PySem.F.slot_list_extend PySem.F.type_list_extend mt_extend A (da_one B hs) hbase hfew hline hs hplain) fun σ H Q ⟨Z, HF, S, q⟩ => ⟨Z, HF, S, fun v HF1 H1 e1 S1 r1 => by
    cases (show v = .ref l from r1)
    obtain ⟨ps', hj1'⟩ := hj1
    obtain ⟨fp, rfl, vs, h1, _, _⟩ := S1.cell hj1'
    refine ⟨.inl ⟨rfl, vs, SqL.of h1⟩, Z, HF1, S1, fun ws HF2 H2 e2 S2 r2 => ?_⟩
    obtain ⟨y, _, rfl, r2, rfl⟩ := r2
    obtain ⟨m, us', rfl, f1, f2, f3⟩ := L.at S2 r2
    obtain ⟨fp, rfl, us, g1, g2, g3⟩ := S2.cell hj
    have hl : us.length + us'.length ≤ sizeLine := by rw [g3.length, f3.length]; exact hz
    refine ⟨l, m, us, us', rfl, rfl, g1, f1, hl, ?_⟩
    subst hω
    refine q _ HF2 _ (e1.trans e2) (S2.wrote hj fun fp c nd => ?_) rfl
    obtain ⟨rfl, us2, k1, k2, k3⟩ := c
    rw [g1] at k1; cases k1
    exact ⟨[l], ⟨rfl, us ++ us', upd_same, by rw [List.length_append]; exact hl, k3.append f3⟩, by simp, fun b hb => .inl hb, fun b n _ => upd_ne fun z => n (by rw [z]; exact List.mem_singleton.mpr rfl)⟩⟩
theorem de_extendT (j : Nat) {ω' : Sto} {l : Addr} (A : DE X a ρ ω (.adr l) ω1) (B : DE X b ρ ω1 d2 ω2) (L : IsL ω2 d2 (ys.map c)) (hz : xs.length + ys.length ≤ sizeLine) (hj : ω2[j]? = some (l, .lst (xs.map c)) := by rfl) (hω : ω2.set j (l, .lst ((xs ++ ys).map c)) = ω' := by rfl) (hj1 : ∃ ps', ω1[j]? = some (l, .lst ps') := by exact ⟨_, rfl⟩)
    (hbase : attributeBase a "extend" X.env (eval a X.env) = eval a X.env := by rfl)
    (hfew : ((backTo pos (starEach [b] X.env)).all (fun x => !x.1) && (backToKw pos (keywordEach [] X.env)).all (fun x => x.1.isSome) && decide ([b].length + ([] : List Keyword).length + (if ([] : List Keyword).isEmpty then 0 else 1) < 30)) = true := by rfl)
    (hline : (apos.endLine == pos.line) = true := by rfl) (hs : starEach [b] X.env = (false, eval b X.env) :: starEach [] X.env := by rfl) (hplain : (backTo pos (starEach [] X.env)).any (·.1) = false := by rfl) :
    DE X (.Call (.Attribute a "extend" apos) [b] [] pos) ρ ω (.v .none) ω' :=
  de_extend j A B L (by rw [List.length_map, List.length_map]; exact hz) hj (by rw [← hω, List.map_append]) hj1 hbase hfew hline hs hplain
end
/-! a join at cells that were given anew -/
def NxE {ι : Type} (ρ' : ι → En) (ω' : ι → Sto) (P : OP) : OP := fun o => (∃ i ρ1 ω1, o = .nx ρ1 ω1 ∧ Wk ρ1 (ρ' i) ∧ Pk ω1 (ω' i)) ∨ Exit P o
section
variable {X : Cx} {ρ : En} {ω ω1 : Sto} {c : Expr} {pos : Pos} {P : OP} {rest body els : List Stmt}
theorem dss_endE {ι : Type} {ρ' : ι → En} {ω' : ι → Sto} (i : ι) (w : Wk ρ (ρ' i)) (p : Pk ω (ω' i)) : DSs X [] ρ ω (NxE ρ' ω' P) := dss_nil (.inl ⟨i, ρ, ω, rfl, w, p⟩)
theorem dss_joinE {ι : Type} {k : Bool} (ρ' : ι → En) (ω' : ι → Sto) (T : DT X c ρ ω k ω1) (h1 : k = true → DSs X body ρ ω1 (NxE ρ' ω' P)) (h2 : k = false → DSs X els ρ ω1 (NxE ρ' ω' P)) (h3 : ∀ i, DSs X rest (ρ' i) (ω' i) P) : DSs X (.If c body els pos :: rest) ρ ω P :=
  dss_gen (ds_if T h1 h2) (fun ρ1 ω1 h => by
    rcases h with ⟨i, _, _, e, w, p⟩ | ⟨_, h⟩
    · cases e; exact dss_pre (h3 i) w p
    · exact absurd trivial h) (fun o h n => by
    rcases h with ⟨_, _, _, e, w, p⟩ | ⟨h, _⟩
    · subst e; exact absurd trivial n
    · exact h)
end
section
open PySem.Spec PyProof.Rows
variable {X : Cx} {ρ : En} {ω ω1 ω2 : Sto} {d1 : D} {a st : Expr} {p3 pos : Pos} {α : Type} {c : α → PyData} {xs : List α}
theorem dn_rev {ps : List PyData} {k : Int} (A : DE X a ρ ω d1 ω1) (C : DE X st ρ ω1 (.v (cI k)) ω2) (L : IsL ω2 d1 ps) (hk : k = -1 := by decide) : DN X (.Subscript a (.Slice none none (some st) p3) pos) ρ ω (.lst ps.reverse) ω2 := by
  subst hk
  refine ⟨fun pins s σ H Q I h => ?_⟩
  obtain ⟨Z, HF, S, q⟩ := h
  refine Subscript_ (thn (A.run pins s σ H (fun v H1 => ∃ HF1, Same HF HF1 ∧ SK Z HF1 H1 σ ρ ω1 ∧ RD HF1 d1 v) I ⟨Z, HF, S, fun v HF1 H1 e1 S1 r1 => ⟨HF1, e1, S1, r1⟩⟩) fun v s1 ⟨x, H1, I1, r1, HF1, e1, S1, q1⟩ => ?_)
  refine wpAny_Slice (thn (po_none.run pins s1 σ H1 (fun o H2 => o = none ∧ H2 = H1) I1 ⟨rfl, rfl⟩) fun vl s2 ⟨l, H2, I2, pl, el, e2⟩ => ?_)
  subst el e2
  refine thn (po_none.run pins s2 σ H2 (fun o H3 => o = none ∧ H3 = H2) I2 ⟨rfl, rfl⟩) fun vu s3 ⟨u, H3, I3, pu, eu, e3⟩ => ?_
  subst eu e3
  refine thn ((do_some C).run pins s3 σ H3 (fun o H4 => o = some (-1) ∧ ∃ HF2, Same HF1 HF2 ∧ SK Z HF2 H4 σ ρ ω2) I3 ⟨Z, HF1, S1, fun HF2 H4 e2 S2 => ⟨rfl, HF2, e2, S2⟩⟩) fun vs s4 ⟨o, H4, I4, ps', eo, HF2, e4, S4⟩ => ?_
  subst eo
  obtain ⟨l, us, rfl, h1, h2, h3⟩ := L.at S4 (q1.mono e4)
  cases r1
  have I5 : Inv X pins σ H4 { s4 with heap := s4.heap.push { cls := .type "slice", data := .fields #[vl, vu, vs] } } := I4.kept (t' := s4.toks) fun b ob q => Heap.get?_push_of_some _ q
  obtain ⟨its, r, ht, hz⟩ := I5.list (SqL.of h1)
  have hlen := r.length
  show wpAny (model X.prog X.w) X.A (subscriptTail a (.Slice none none (some st) p3) (.ref l) (.ref s4.heap.objs.size)) (EP X pins σ Q) X.xe { s4 with heap := s4.heap.push { cls := .type "slice", data := .fields #[vl, vu, vs] } }
  refine tail_any (ops := [.ref l, .ref s4.heap.objs.size]) ht.isList.typeIs (PySem.slot_list_getitem.lookup) ?_ (by with_unfolding_all rfl)
  refine wpAny_getItem_list_slice ht.isList (Heap.IsSliceOf.new _ vl vu vs) pl pu ps' (by decide) ?_ (by rw [List.size_toArray]; omega)
  rw [PySem.W.krv_pick]
  refine ⟨.ref _, _, I5.laid (t' := s4.toks) (o := .lst us.reverse) (fun b ob q => Heap.get?_push_of_some _ q) (Nat.le_refl _) ?_, rfl, q _ HF2 _ (e1.trans e4) (S4.newC (I5.hok.fresh (Nat.le_refl _)) (cell_lst (by rw [List.length_reverse]; exact h2) h3.reverse))⟩
  exact ⟨by rw [List.length_reverse]; exact hz, _, 0, r.reverse, Heap.get?_push_size _ rfl⟩
theorem dn_revT {k : Int} (A : DE X a ρ ω d1 ω1) (C : DE X st ρ ω1 (.v (cI k)) ω2) (L : IsL ω2 d1 (xs.map c)) (hk : k = -1 := by decide) : DN X (.Subscript a (.Slice none none (some st) p3) pos) ρ ω (.lst (xs.reverse.map c)) ω2 := by
  have h := dn_rev (p3 := p3) (pos := pos) A C L hk
  rw [← List.map_reverse] at h
  exact h
end
section
variable {X : Cx} {ρ : En} {ω ω1 : Sto} {d1 d2 d3 : D} {a b c : Expr} {pos : Pos} {P : OP} {rest : List Stmt}
theorem dss_par3 (i j l : Nat) {x y z : Str} {px py pz pt pt2 : Pos} {kt k2 : Nat} (A : DA X [a, b, c] ρ ω [d1, d2, d3] ω1) (B : DSs X rest (((ρ.set i (some d1)).set j (some d2)).set l (some d3)) ω1 P) (hc : X.calm = true := by rfl) (hN : X.N.Nodup := by assumption)
    (hi : X.N[i]? = some x := by rfl) (hj : X.N[j]? = some y := by rfl) (hl : X.N[l]? = some z := by rfl) (hij : i ≠ j := by decide) (hil : i ≠ l := by decide) (hjl : j ≠ l := by decide)
    (hx : X.env.scope.names.lookup x = some .local := by rfl) (hy : X.env.scope.names.lookup y = some .local := by rfl) (hz : X.env.scope.names.lookup z = some .local := by rfl)
    (hw : swappedStores [.Tuple [.Name x px, .Name y py, .Name z pz] kt pt] (.Tuple [a, b, c] k2 pt2) X.env = pure (some [x, y, z]) := by rfl)
    (hs : swapsWithSole [.Tuple [.Name x px, .Name y py, .Name z pz] kt pt] (.Tuple [a, b, c] k2 pt2) pos.line X.env = pure false := by rfl) : DSs X (.Assign [.Tuple [.Name x px, .Name y py, .Name z pz] kt pt] (.Tuple [a, b, c] k2 pt2) pos :: rest) ρ ω P :=
  dss_step (ps_par3 hc hN hi hj hl hij hil hjl hx hy hz A hw hs) B fun E σ H Z HF S q => ⟨Z, HF, S, fun vs HF1 H1 e1 S1 r1 => by
    obtain ⟨v, _, rfl, r1, w, _, rfl, r2, u, _, rfl, r3, rfl⟩ := r1
    exact ⟨v, w, u, rfl, q _ HF1 H1 e1 (((S1.set i r1).set j r2).set l r3)⟩⟩
end
end Q
end

section
set_option Elab.async false
set_option linter.all false
set_option maxRecDepth 100000
set_option maxHeartbeats 4000000
/-! LAYER 9: an own error over ValueError whose __init__ says super().__init__(text) and keeps one field; defs that raise it; try. -/
namespace QX
open PySem PySem.W PySem.Calls PyProof.Rows PySem.HandSPX
/-! ### ValueError.__init__ bound to an instance -/
abbrev vw (x : Addr) : Obj := { cls := .type "method-wrapper", dict := none, data := .fields #[.builtin "ValueError.__init__", .ref x], slots := #[] }
theorem ty_vi : typeOf (.builtin "ValueError.__init__") = pure (.type "wrapper_descriptor") := by show builtinType _ = _; rw [builtinType_eq_fast]; kernel_rfl
theorem na_vi : (kfb_private% "nameAndClass") (Value.builtin "ValueError.__init__") = (pure (("__init__" : Str), Value.type "ValueError") : Sem (Str × Value)) := by kernel_rfl
section
variable {prog : Program} {w : World} {M : Model} {A : Around} {E : Value → Shared → Prop} {h : Heap} {g : Array GenState} {d : Drawn} {t : Nat} {os : OsState}
theorem get_vi {x C : Addr} {P : Fin → Shared → Prop} (hin : Looks M h (isInstance (.ref x) (.type "ValueError")) true) (hq : P (.done (.ret (.ref h.objs.size))) ⟨h.push (vw x), g, d, t, os⟩) :
    wpAny M A (Builtin.«wrapper_descriptor.__get__» ⟨[.builtin "ValueError.__init__", .ref x, .ref C], []⟩) P E ⟨h, g, d, t, os⟩ := by
  unfold Builtin.«wrapper_descriptor.__get__»
  refine wpAny_bind (wpAny_of_eq (a := (.builtin "ValueError.__init__", some (.ref x), some (.ref C))) (by first | rfl | kernel_rfl) ?_)
  show wpAny M A ((kfb_private% "checkInstance") (.builtin "ValueError.__init__") (.ref x) >>= fun _ => newFields "method-wrapper" [.builtin "ValueError.__init__", .ref x] >>= fun r => ret r) P E _
  refine wpAny_bind (?_ : wpAny M A ((kfb_private% "nameAndClass") (.builtin "ValueError.__init__") >>= _) _ E _)
  refine wpAny_bind (wpAny_of_eq na_vi (?_ : wpAny M A (isInstance (.ref x) (.type "ValueError") >>= _) _ E _))
  exact wpAny_bind (hin.at (KFB.if_not rfl (wpAny_pure (wpAny_bind (wpAny_newObj_type (wpAny_pure hq))))))
end
section
variable {prog : Program} {w : World} {A : Around} {E : Value → Shared → Prop} {h : Heap} {g : Array GenState} {d : Drawn} {t : Nat} {os : OsState}
theorem ga_vi {so Dd x C : Addr} {l₀ l : List Value} {K : Frag} {name : Str} {tk : Tok} {Q : Fin → Shared → Prop}
    (hso : h.get? so = some (ks_superObj Dd x C)) (hno : Looks (model prog w) h (opaqueClassAbove (.ref C)) none)
    (hC : Looks (model prog w) h (mroOf (.ref C)) l₀) (hl : (l₀.dropWhile (· != .ref Dd)).drop 1 = l) (X : K.In h)
    (hf : alongIn K name l = some (some (.builtin "ValueError.__init__"))) (hxC : x ≠ C) (hn : (name == ("__class__" : Str)) = false) (hin : Looks (model prog w) h (isInstance (.ref x) (.type "ValueError")) true)
    (hq : Q (.done (.ret (.ref h.objs.size))) ⟨h.push (vw x), g, d, t, os⟩) :
    wpAny (model prog w) A (Builtin.«super.__getattribute__» ⟨[.ref so, .str name tk], []⟩) Q E ⟨h, g, d, t, os⟩ := by
  have hlk := ESX.slot_wd.lookup
  have hne : (Value.ref x == Value.ref C) = false := by simp [hxC]
  have hTf := ty_vi
  have hTi : Shared.TypeIs ⟨h, g, d, t, os⟩ (.builtin "ValueError.__init__") "wrapper_descriptor" := ty_vi
  have hdt : (ks_superObj Dd x C).data = .fields #[.ref Dd, .ref x, .ref C] := rfl
  have f0 : (#[.ref Dd, .ref x, .ref C] : Array Value)[0]? = some (.ref Dd) := rfl
  have f1 : (#[.ref Dd, .ref x, .ref C] : Array Value)[1]? = some (.ref x) := rfl
  have f2 : (#[.ref Dd, .ref x, .ref C] : Array Value)[2]? = some (.ref C) := rfl
  unfold Builtin.«super.__getattribute__»
  repeat (first
    | (with_reducible refine wpAny_field hso hdt f0 ?_) | (with_reducible refine wpAny_field hso hdt f1 ?_) | (with_reducible refine wpAny_field hso hdt f2 ?_) | (with_reducible refine ks_wpAny_notOpaque hno ?_)
    | (with_reducible refine Looks.at hC ?_; rw [hl]) | (refine ks_forIn_along X (fun _ _ => rfl) rfl ?_ hf) | (with_reducible refine wpAny_call_entry ESX.slot_wd hTi ESX.entry_wd ?_ (ESX.args_wd _ _ _))
    | (with_reducible refine get_vi hin ?_) | (with_reducible refine ⟨_, rfl, ?_⟩) | (simp only [hn, hne, Bool.or_false, Bool.false_eq_true, if_false]) | wp_step | dsimp only)
  all_goals exact hq
theorem gm_vi {so Dd x C : Addr} {l₀ l : List Value} {K : Frag} {name : Str} {pl : Sem Bool} {Q : Value × List Value → Shared → Prop}
    (hso : h.get? so = some (ks_superObj Dd x C)) (hno : Looks (model prog w) h (opaqueClassAbove (.ref C)) none)
    (hC : Looks (model prog w) h (mroOf (.ref C)) l₀) (hl : (l₀.dropWhile (· != .ref Dd)).drop 1 = l) (X : K.In h)
    (hf : alongIn K name l = some (some (.builtin "ValueError.__init__"))) (hxC : x ≠ C) (hn : (name == ("__class__" : Str)) = false) (hin : Looks (model prog w) h (isInstance (.ref x) (.type "ValueError")) true)
    (hq : Q (.ref h.objs.size, []) ⟨h.push (vw x), g, d, t + 1, os⟩) :
    wpAny (model prog w) A (getMethod (.ref so) name pl) Q E ⟨h, g, d, t, os⟩ := by
  have hlk := F.ks_slot_super_ga.lookup
  have hT : ∀ t', (⟨h, g, d, t', os⟩ : Shared).TypeIs (.ref so) "super" := fun _ => ⟨_, hso, rfl⟩
  unfold getMethod
  refine wpAny_bind (wpAny_specialOf (hT _) hlk (?_ : wpAny _ _ (if (Manifest.canonical "super.__getattribute__" != "object.__getattribute__") = true then _ else _) _ _ _))
  rw [if_pos F.ks_canon_super_ga]
  unfold getAttr getAttrBy
  refine wpAny_bind (wpAny_bind (wpAny_mkText (wpAny_holding (wpAny_bind (wpAny_typeOf (hT _) (wpAny_bind (wpAny_of_eq hlk (?_ : wpAny _ _ (getAttrByItsOwn (.ref so) (.str name t) (.type "super") (.builtin "super.__getattribute__") true false) _ _ _))))))))
  unfold getAttrByItsOwn hookBefore callGetattribute boundAndCalled
  refine wpAny_bind (wpAny_of_eq (show (if onTheHeap (.type "super") then typeLookup (.type "super") "__getattr__" else pure none) = pure none from rfl) (wpAny_bind (wpAny_attempt (wpAny_holding (?_ : wpAny _ _ (bindSpecial (.builtin "super.__getattribute__") (.ref so) >>= _) _ _ _)))))
  refine wpAny_bind (wpAny_of_eq (F.ks_slot_super_ga.bind _) (wpAny_mono (Q := fun v s' => v = .ref h.objs.size ∧ s' = ⟨h.push (vw x), g, d, t + 1, os⟩) (E := fun _ _ => False)
    (wpAny_call_entry F.ks_slot_super_ga (hT _) F.ks_entry_super_ga (ga_vi hso hno hC hl X hf hxC hn hin ⟨_, rfl, rfl, rfl⟩) (F.ks_gaArgs_super _ _)) (fun v s' hv => ?_) fun _ _ z => z.elim))
  obtain ⟨rfl, rfl⟩ := hv
  exact wpAny_pure (wpAny_pure hq)
end
section
variable {prog : Program} {w : World} {M : Model} {A : Around} {E : Value → Shared → Prop} {s : Shared}
theorem cw_vi {pos : Pos} {u x : Addr} {first : List Value} {env : Env} {e : Expr} {Q : Value → Shared → Prop}
    (h : wpAny M A (eval e env) (fun v s₁ => s₁.heap.get? u = some (vw x) ∧ wpAny M A (call (.ref u) (first ++ [v])) Q E s₁) E s)
    (he : starEach [e] env = (false, eval e env) :: starEach [] env := by rfl) : wpAny M A (callWith pos (.ref u) first (backTo pos (starEach [e] env)) []) Q E s := by
  have h2 : wpAny M A (spliced (backTo pos (starEach [e] env))) (fun vs s₁ => s₁.heap.get? u = some (vw x) ∧ wpAny M A (call (.ref u) (first ++ vs)) Q E s₁) E s := by
    rw [he]
    exact Calls.spliced_cons (wpAny_mono h (fun v s₁ h₁ => Calls.spliced_nil h₁) fun _ _ x => x)
  rw [he] at h2 ⊢
  have hplain : ((false, eval e env) :: backTo pos (starEach [] env)).any (·.1) = false := rfl
  unfold callWith
  refine wpAny_bind (wpAny_holding (wpAny_mono (evalArgs_plain (Q := fun a s₁ => s₁.heap.get? u = some (vw x) ∧ wpAny M A (call (.ref u) (first ++ a.pos) a.kw) Q E s₁) h2) (fun a s₁ h₁ => wpAny_bind (wpAny_standAt ?_)) fun _ _ x => x))
  obtain ⟨ho, hcall⟩ := h₁
  have hpl2 : (List.any (backTo pos ((false, eval e env) :: starEach [] env)) fun x => x.1) = false := rfl
  simp only [hpl2, List.any_nil, Bool.or_false]
  refine wpAny_bind (m := keeperOf (.ref u)) ?_
  unfold keeperOf
  refine wpAny_bind (wpAny_load ho ?_)
  simp only [vw, show (Value.type "method-wrapper" != Value.type "method") = true by decide, show (Value.type "method-wrapper" == Value.type "builtin_function_or_method" || Value.type "method-wrapper" == Value.type "method-wrapper") = true by decide, if_true]
  exact wpAny_pure (wpAny_bind (wpAny_mono hcall (fun r s₂ hr => wpAny_bind (wpAny_holding (wpAny_point (wpAny_pure hr)))) fun _ _ x => x))
end
section
variable {M : Model} {A : Around} {E : Value → Shared → Prop} {h : Heap} {g : Array GenState} {d : Drawn} {t : Nat} {os : OsState}
variable {prog : Program} {w : World} {nm q : Str} {C N : Addr} {bs bm bmB : List Value} {hdct : Bool} {sn : List Str} {sub : List Value} {ab : Bool} {col : Option Bool} {dd : Option Addr} {k0 k1 k2 k3 k5 : Option Value} {B newId initId : String}
theorem cl_vi {u e t0 : Addr} {rest : List Value} {Q : Value → Shared → Prop}
    (hC : h.get? C = some (excClassObj nm q C N bs bm hdct sn sub ab col dd k0 k1 k2 k3 k5 "ValueError.__new__")) (he : h.get? e = some (excO C t0)) (hu : h.get? u = some (vw e)) (hrest : rest.length ≤ sizeLine)
    (hq : ∀ h' t1, (∀ b o, b ≠ e → h.get? b = some o → h'.get? b = some o) → h'.get? e = some (excO C t1) → Q .none ⟨h', g, d, t, os⟩) :
    wpAny (model prog w) A (call (.ref u) rest) Q E ⟨h, g, d, t, os⟩ := by
  refine wpAny_call (codeAny_of_tree (?_ : wpAny _ A.in1 (callAny (.ref u) ⟨rest, []⟩) _ _ _))
  simp only [callAny]
  refine wpAny_bind (wpAny_load hu ?_)
  simp only [vw, show (Value.type "method-wrapper" == Value.type "method" || Value.type "method-wrapper" == Value.type "builtin_function_or_method" || Value.type "method-wrapper" == Value.type "method-wrapper") = true by decide, if_true]
  refine W.KFB.if_so (by decide) (wpAny_bind (ESX.check_bound F.excBase_ValueError hC he rfl (wpAny_bind (wpAny_pure (wpAny_pure ?_)))))
  refine ⟨Code.quiet_builtin _ (by decide +kernel), codeAny_builtin F.excBase_ValueError.initEntry ?_⟩
  rw [Around.under_plainId F.excBase_ValueError.init.plain _]
  wp_walk
  refine hq _ h.objs.size (fun b o hb ho => ?_) ?_
  · exact (Heap.get?_update_other _ _ (Ne.symm hb)).trans (Heap.get?_push_of_some _ ho)
  · rw [Heap.get?_update_self _ (Heap.get?_push_of_some _ he) rfl]; rfl
end
/-! ### the class and its __init__, as the written part tells them -/
def eArgs (fld : Str) (a1 a2 : Pos) : Arguments := { posonlyargs := [], args := [{ arg := "self", annotation := none, pos := a1 }, { arg := fld, annotation := none, pos := a2 }], vararg := none, kwonlyargs := [], kw_defaults := [], kwarg := none, defaults := [] }
def eCall (msg : Str) (j : Nat) (p0 p1 p2 p3 p4 : Pos) : Expr := .Call (.Attribute (.Call (.Name "super" p0) [] [] p1) "__init__" p2) [.Constant (.str msg) j p3] [] p4
def eCallIs (msg : Str) (j : Nat) (p0 p1 p2 p3 p4 : Pos) (pl : Sem Bool) (env : Env) : Prop := eval (eCall msg j p0 p1 p2 p3 p4) env = (do
      let ov ← attributeBase (.Call (.Name "super" p0) [] [] p1) "__init__" env (eval (.Call (.Name "super" p0) [] [] p1) env)
      standAt p2.atName
      let (f, first) ← holding [ov] (getMethod ov "__init__" pl)
      callWith p4 f first (backTo p4 (starEach [.Constant (.str msg) j p3] env)) [])
def eBody (msg fld : Str) (j : Nat) (p0 p1 p2 p3 p4 p5 q1 q2 q3 q4 : Pos) : List Stmt :=
  [.Expr (eCall msg j p0 p1 p2 p3 p4) p5, .Assign [.Attribute (.Name "self" q1) fld q2] (.Name fld q3) q4]
def eScope (fld : Str) (sc : Scope) : Bool := decide (sc.kind = .function) && (sc.names.lookup ("self" : Str) == some NameKind.local) && (sc.names.lookup fld == some NameKind.local) && (sc.names.lookup ("super" : Str) == some NameKind.globalImplicit) && (sc.names.lookup ("__class__" : Str) == some NameKind.free) &&
  sc.names.all (fun x => decide (x.2 ≠ .cell)) && !sc.isCoroutine && !sc.isGenerator
structure ErrTxt (prog : Program) (K : Frag) (mg : Str → Option Value) (nm qual msg fld : Str) (C fI : Addr) : Prop where
  gC : mg nm = some (.ref C)
  oex : L2.OexC K C
  ga : findIn K (.ref C) "__getattribute__" = some (some (.builtin "BaseException.__getattribute__"))
  gg : findIn K (.ref C) "__getattr__" = some none
  noN : findIn K (.ref C) fld = some none
  iC : findIn K (.ref C) "__init__" = some (some (.ref fI))
  tI : typeIn K (.ref fI) = some (.type "function")
  hdC : hasDictIn K C = true
  te : exmOne K (.ref C) (.ref C) = some true
  mroV : mroIn K C (.type "ValueError") = some true
  mroC : mroIn K C (.ref C) = some true
  sup : ks_superIn K C C "__init__" = some (some (.builtin "ValueError.__init__"))
  noS : mg "super" = none
  noT : nsIn K cStatics "thirdparty.any" = some none
  fld1 : (fld == ("self" : Str)) = false
  fld2 : (fld == ("__debug__" : Str)) = false
  top : (prog.main.scope.names.lookup ("super" : Str)).isSome = false
  fn : ∃ (oc ct ccl cl doc pm : Value) (od an cdd cld : Option Addr) (osl ccs csl : Array (Option Value)) (cdA cc : Addr) (vs : Array Value) (file : Str) (tf : Tok) (sc : Scope) (j : Nat) (a1 a2 p0 p1 p2 p3 p4 p5 q1 q2 q3 q4 : Pos),
    K.lookup fI = some ⟨oc, od, .func (ksFn "__init__" qual (eArgs fld a1 a2) (eBody msg fld j p0 p1 p2 p3 p4 p5 q1 q2 q3 q4) sc .none .none doc pm an (.ref cdA) ct cc), osl⟩ ∧ codeIn K (.ref cdA) qual = true ∧
    K.lookup cdA = some ⟨ccl, cdd, .fields vs, ccs⟩ ∧ vs[2]? = some (.str file tf) ∧ ((prog.main.file : Str) == file) = true ∧ K.lookup cc = some ⟨cl, cld, .cell (some (.ref C)), csl⟩ ∧ eScope fld sc = true ∧
    (∃ pl : Sem Bool, ∀ (L a : Addr) (cd : Value) (c' : Addr), eCallIs msg j p0 p1 p2 p3 p4 pl (ksEnv qual sc L a cd c')) ∧ (∀ (L a : Addr) (cd : Value) (c' : Addr), swapsWith (eCall msg j p0 p1 p2 p3 p4) none p5.line (ksEnv qual sc L a cd c') = pure false) ∧
    (∀ (L a : Addr) (cd : Value) (c' : Addr), swapsWith (.Name fld q3) (some (.Attribute (.Name "self" q1) fld q2)) q4.line (ksEnv qual sc L a cd c') = pure false) ∧ (∀ (L a : Addr) (cd : Value) (c' : Addr), interactive (ksEnv qual sc L a cd c') = false) ∧
    (∀ u v : Value, bindArgs (ksFn "__init__" qual (eArgs fld a1 a2) (eBody msg fld j p0 p1 p2 p3 p4 p5 q1 q2 q3 q4) sc .none .none doc pm an (.ref cdA) ct cc) ⟨[u, v], []⟩ = pure [(("self" : Str), u), (fld, v)])
/-- what __init__ leaves of a fresh exception at x -/
structure ErrEnd (h h' : Heap) (fld : Str) (x C dx t1 : Addr) (v : Value) : Prop where
  keep : ∀ b o, b ≠ x → h.get? b = some o → h'.get? b = some o
  obj : h'.get? x = some { cls := .ref C, dict := some dx, data := .fields #[.ref t1, .none, .none, .none, .bool false, .none] }
  dbig : h.objs.size ≤ dx
  dne : dx ≠ x
  ns : h'.Ns1 dx (fun y => if y = fld then some v else none)
section
variable {prog : Program} {w : World} {A : Around} {E : Value → Shared → Prop} {R : Result → Shared → Prop} {s : Shared} {K : Frag} {mg mb : Str → Option Value} {nm qual msg fld : Str} {C fI : Addr}
theorem err_init (T : ErrTxt prog K mg nm qual msg fld C fI) {x t0 : Addr} {v : Value} (X : K.In s.heap) (hlim : s.heap.NoLimit) (hg : s.heap.Ns mainGlobals mg) (hgs : mg "super" = none) (hb : s.heap.Ns builtinsNs mb) (hbs : mb "super" = some (.type "super"))
    (hx : s.heap.get? x = some (excO C t0)) (hKx : K.lookup x = none) (hroom : A.depth < recursionLimit)
    (hq : ∀ h' tk dx t1, ErrEnd s.heap h' fld x C dx t1 v → R (.ok (.ret .none)) { s with heap := h', toks := tk }) :
    codeAny (model prog w) A (.call (.ref fI) ⟨[.ref x, v], []⟩) R s := by
  obtain ⟨oc, ct, ccl, cl, doc, pm, od, an, cdd, cld, osl, ccs, csl, cdA, cc, vs, file, tf, sc, j, a1, a2, p0, p1, p2, p3, p4, p5, q1, q2, q3, q4, ho, hcd, hcode, hvs, hfile, hcell, hsc, ⟨pl, hpl⟩, hsw1, hsw2, hint, hbd⟩ := T.fn
  obtain ⟨nm', q', N', bs, bm, sn, sub, ab, col, dd, k0, k1, k2, k3, k5, hC, hbm⟩ := T.oex.cls
  have hcl : clsIn K C = some { name := nm', bases := bs, mro := .ref C :: bm, ns := N', qualname := q', hasDict := true, slotNames := sn, subclasses := sub, abstract := ab, collection := col, hasDel := false } := by unfold clsIn; rw [hC] <;> rfl
  unfold eScope at hsc
  simp only [Bool.and_eq_true, decide_eq_true_eq, beq_iff_eq, Bool.not_eq_true', List.all_eq_true] at hsc
  obtain ⟨⟨⟨⟨⟨⟨⟨s1, s2⟩, s3⟩, s4⟩, s5⟩, s6⟩, s7⟩, s8⟩ := hsc
  have hxC : x ≠ C := fun e => by
    have z := X _ _ hC
    rw [← e, hx] at z
    cases z
  refine ks_codeAny_call_defAt (binds := [("self", .ref x), (fld, v)]) hroom (X _ _ ho) rfl hlim (codeRec_of X hcd) rfl (BindsTo.of_eq ?_) (fun y hy => s6 y hy) (fun y hy => ?_) (fun h₁ hns k => ?_) s7 s8 s1
  · exact hbd _ _
  · rcases List.mem_cons.mp hy with rfl | hy
    · exact s2
    · cases List.mem_singleton.mp hy; exact s3
  have X₁ : K.In h₁ := X.keeps k
  have hx₁ := k _ _ hx
  show _root_.PySem.wpAt _ _ (.func _ (ksEnv qual sc s.heap.objs.size fI (.ref cdA) cc)) (execs _ (ksEnv qual sc s.heap.objs.size fI (.ref cdA) cc)) _ _ _
  have hself : (List.lookup ("self" : Str) [(fld, v), (("self" : Str), Value.ref x)]) = some (.ref x) := by
    have e : (("self" : Str) == fld) = false := by
      have := T.fld1
      rw [beq_eq_false_iff_ne] at this ⊢
      exact Ne.symm this
    simp [List.lookup, e]
  have hfld : (List.lookup fld [(fld, v), (("self" : Str), Value.ref x)]) = some v := by simp [List.lookup]
  refine ks_wpAt_execs_cons (ks_wpAt_Expr_any (ks_wpAt_MethodCall (ks_wpAt_super_base (env := ksEnv qual sc s.heap.objs.size fI (.ref cdA) cc) s4 s5 rfl rfl (X₁ _ _ ho) rfl rfl rfl (X₁ _ _ hcode) rfl hvs hfile T.top ?_) (hpl _ _ _ _)) (hint _ _ _ _) (hsw1 _ _ _ _))
  refine ks_loadName_global s1 s4 (Calls.loadGlobal_builtin (env := ksEnv qual sc s.heap.objs.size fI (.ref cdA) cc) (hg.keeps k) hgs (hb.keeps k) hbs ⟨rfl, ?_⟩)
  refine wpAny_loadName_free s1 s5 rfl ⟨_, X₁ _ _ hcell, rfl⟩ (wpAny_loadName_local s1 s2 hns hself ?_)
  refine ks_wpAny_isType_cls (X₁ _ _ hC) rfl ⟨rfl, ks_wpAny_call_super (X₁ _ _ hC) rfl hx₁ rfl (fun c e => nomatch e) (looks_mroIn X₁ T.mroC) (fun h₂ e₂ k₂ => ?_)⟩
  have X₂ : K.In h₂ := X₁.keeps k₂
  have hx₂ := k₂ _ _ hx₁
  have I₂ : InstAt h₂ x (excO C t0) C none := ⟨hx₂, rfl, rfl, trivial⟩
  refine gm_vi e₂ (looks_opaque X₂ T.noT) (l₀ := .ref C :: bm) ((looks_clsIn X₂ hcl).andThen .now) rfl X₂ (by have z := T.sup; unfold ks_superIn at z; rw [hcl] at z; exact z) hxC (by decide) (I₂.type.andThen (looks_mroIn X₂ T.mroV)) ?_
  refine cw_vi (x := x) (Calls.Constant_str ⟨Heap.get?_push_size _ rfl, ?_⟩)
  refine cl_vi (e := x) (t0 := t0) (Heap.get?_push_of_some _ (X₂ _ _ hC)) (Heap.get?_push_of_some _ hx₂) (Heap.get?_push_size _ rfl) (by rw [sizeLine_eq]; exact (by decide : 1 ≤ 16777216)) (fun h₃ t1 k₃ hx₃ => ?_)
  have k03 : ∀ b o, b ≠ x → h₁.get? b = some o → h₃.get? b = some o := fun b o hb e => k₃ b o hb (Heap.get?_push_of_some _ (k₂ b o e))
  have hLx : s.heap.objs.size ≠ x := Nat.ne_of_gt (Heap.lt_size hx)
  have X₃ : K.In h₃ := fun a o e => k03 a o (fun z => by rw [z, hKx] at e; cases e) (X₁ a o e)
  have hns₃ := hns.at fun o e => k03 _ o hLx e
  refine wpAt_of_wpAny (wpAny_execs_cons (plainObj_wpAny_Assign_Attribute (wpAny_Name (wpAny_loadName_local s1 s3 hns₃ hfld (wpAny_Name (wpAny_loadName_local s1 s2 hns₃ hself ?_) (by decide))) T.fld2) (hsw2 _ _ _ _)))
  refine set_plain X₃ (ox := excO C t1) (od := none) ⟨hx₃, rfl, rfl, trivial⟩ T.oex.sa ?_
  refine exc_osa X₃ hx₃ hcl (show refsVE (.ref C :: bm) = true from hbm) rfl T.noN (fun h₄ tk₄ dx k₄ dn dne hx₄ hn₄ => ?_)
  show wpAny _ _ (execs _ _) _ _ _
  exact wpAny_execs_nil (hq h₄ tk₄ dx t1 ⟨fun b o hb e => k₄ b o hb (k03 b o hb (k b o e)), hx₄, Nat.le_of_lt (Nat.lt_of_lt_of_le hns₃.lt dn), dne, hn₄⟩)
end
/-- a made one -/
structure ErrMade (h h' : Heap) (fld : Str) (e C d : Addr) (v : Value) : Prop where
  keep : ∀ b o, h.get? b = some o → h'.get? b = some o
  new : h.objs.size ≤ e
  obj : ∃ oe vs, h'.get? e = some oe ∧ oe.cls = .ref C ∧ oe.dict = some d ∧ oe.data = .fields vs ∧ vs[1]? = some .none
  dbig : h.objs.size ≤ d
  dne : d ≠ e
  ns : h'.Ns1 d (fun y => if y = fld then some v else none)
section
variable {prog : Program} {w : World} {A : Around} {E : Value → Shared → Prop} {R : Result → Shared → Prop} {s : Shared} {K : Frag} {mg mb : Str → Option Value} {nm qual msg fld : Str} {C fI : Addr}
theorem err_made (T : ErrTxt prog K mg nm qual msg fld C fI) {v : Value} (X : K.In s.heap) (hlim : s.heap.NoLimit) (hg : s.heap.Ns mainGlobals mg) (hgs : mg "super" = none) (hb : s.heap.Ns builtinsNs mb) (hbs : mb "super" = some (.type "super")) (hroom : A.depth + 1 < recursionLimit)
    (hq : ∀ h' tk e d, ErrMade s.heap h' fld e C d v → R (.ok (.ret (.ref e))) { s with heap := h', toks := tk }) :
    codeAny (model prog w) A (.call (.ref C) ⟨[v], []⟩) R s := by
  obtain ⟨nm', q', N', bs, bm, sn, sub, ab, col, dd, k0, k1, k2, k3, k5, hC, hbm⟩ := T.oex.cls
  obtain ⟨hp, g, dr, tk, os⟩ := s
  have k : ∀ b o, hp.get? b = some o → ((hp.push (kdv_tup [v])).push (excO C hp.objs.size)).get? b = some o := fun b o e => Heap.get?_push_of_some _ (Heap.get?_push_of_some _ e)
  have hget : ((hp.push (kdv_tup [v])).push (excO C hp.objs.size)).get? (hp.objs.size + 1) = some (excO C hp.objs.size) := by heap_get
  have hnx : K.lookup (hp.objs.size + 1) = none := by
    cases e : K.lookup (hp.objs.size + 1) with
    | none => rfl
    | some o => exact absurd (Nat.lt_of_succ_lt (Heap.lt_size (X _ _ e))) (Nat.lt_irrefl _)
  refine call_own F.excBase_ValueError (fun X => refsVE_contains X bm hbm) (X _ _ hC) (looks_findIn X T.iC) (fun self => bind_fn X self T.tI) (by rw [sizeLine_eq]; exact (by decide : 1 ≤ 16777216)) ?_
  refine err_init (s := ⟨(hp.push (kdv_tup [v])).push (excO C hp.objs.size), g, dr, tk, os⟩) T (X.keeps k) (hlim.keeps k) (hg.keeps k) hgs (hb.keeps k) hbs hget hnx hroom fun h' tk' dx t1 ⟨k', hx, dn, dne, hns⟩ => ?_
  have old : ∀ b o, hp.get? b = some o → h'.get? b = some o := fun b o e => k' b o (Nat.ne_of_lt (Nat.lt_succ_of_lt (Heap.lt_size e))) (k b o e)
  have z : hp.objs.size + 1 + 1 ≤ dx := by
    have q := dn
    simp only [Heap.size_push] at q
    exact q
  exact ⟨rfl, hq h' tk' (hp.objs.size + 1) dx ⟨old, Nat.le_succ _, ⟨_, _, hx, rfl, rfl, rfl, rfl⟩, Nat.le_trans (Nat.le_trans (Nat.le_succ _) (Nat.le_succ _)) z, dne, hns⟩⟩
end
end QX
end

section
set_option Elab.async false
set_option linter.all false
set_option maxRecDepth 100000
set_option maxHeartbeats 4000000
/-! LAYER 10: making, raising, catching such an error; defs that hand back or raise. -/
namespace Q
open PySem L2 QX
open PySem.Spec PyProof.Rows
theorem relO_fld {fld : Str} {v : V} {u : Value} (r : RelV v u) (f : Str) : RelO (List.lookup f [(fld, v)]) (if f = fld then some u else none) := by
  rw [lookup_put]
  by_cases h : f = fld
  · rw [if_pos h, if_pos h]; exact r
  · rw [if_neg h, if_neg h]; trivial
section
variable {X : Cx} {nm qual msg fld : Str} {C fI : Addr}
def tMkErr (C : Addr) (fld : Str) (ta : TA) : L2.St → Hp → XK → Prop := fun σ H Q => ta σ H fun vs H1 => ∃ v, vs = [v] ∧ ∀ d, H1 d = none → Q (.ref C) (some d) (upd H1 d (.xd [(fld, v)]))
theorem pmk_err {a : Expr} {ta : TA} {p pos : Pos} {k : Nat} (T : ErrTxt X.prog X.K X.mg nm qual msg fld C fI) (hr : Room k X.A) (ha : PA X [a] ta) (hg : Gl X nm) (hd : (nm == ("__debug__" : Str)) = false)
    (he : starEach (a :: []) X.env = (false, eval a X.env) :: starEach [] X.env) (hpl : (backTo pos (starEach [] X.env)).any (·.1) = false := by rfl) :
    PMk X (.Call (.Name nm p) [a] [] pos) (tMkErr C fld ta) := by
  intro pins s σ H Q I h
  refine wpAny_Call_Name_kw (ld_glob I hg T.gC ?_ hd)
  refine PySem.W.callWith_K (h₀ := X.base) I.ok.mod.kin T.oex.kC (thn (ha.run pos pins s σ H _ I h) fun us s1 hh => ?_) he hpl
  obtain ⟨vs, H1, I1, r1, v, rfl, q1⟩ := hh
  refine ⟨I1.kIn, ?_⟩
  obtain ⟨u, rfl, rv⟩ := vals1 r1
  show wpAny _ _ (call (.ref C) [u]) _ _ _
  have hlim := I1.nolimit
  obtain ⟨mb, hb1, hb2⟩ := I1.ok.mod.blt
  have hgl := I1.ok.mod.glob.keeps I1.bk
  obtain ⟨hp, g, dr, tk, os⟩ := s1
  refine wpAny_call (err_made T I1.kIn hlim hgl T.noS (hb1.keeps I1.bk) ((hb2 _ (by decide)).trans (by decide +kernel)) (by have := hr.dp; omega) fun h' tk' e d M => ?_)
  show MkP X pins σ Q (.ref e) ⟨h', g, dr, tk', os⟩
  obtain ⟨oe, fv, hoe, hc, hdd, hdat, h1⟩ := M.obj
  obtain ⟨G', g1, g2⟩ := restrict h' fun b => decide (b ≠ e)
  have gk : ∀ b, b ≠ e → G'.get? b = h'.get? b := fun b hb => g1 b (decide_eq_true hb)
  have ge : G'.get? e = none := g2 e (by simp)
  have old : ∀ b o, hp.get? b = some o → G'.get? b = some o := fun b o q => (gk b (Nat.ne_of_lt (Nat.lt_of_lt_of_le (Heap.lt_size q) M.new))).trans (M.keep b o q)
  have J : Inv X pins σ (upd H1 d (.xd [(fld, v)])) ⟨G', g, dr, tk', os⟩ := I1.laid (t' := tk') old M.dbig ⟨_, M.ns.at (fun o q => (gk d M.dne).trans q), fun f => relO_fld rv f⟩
  refine ⟨e, oe, fv, ⟨G', g, dr, tk', os⟩, _, .ref C, some d, rfl, J, fun b o q => ?_, ge, hoe, ⟨hc, hdd⟩, hdat, h1, ?_, rfl, I1.bare, raises_own T.oex.exC T.oex.tyC, q1 d (I1.hok.fresh M.dbig)⟩
  · by_cases hb : b = e
    · have q' : G'.get? b = some o := q
      rw [hb, ge] at q'; cases q'
    · exact (gk b hb).symm.trans q
  · rw [upd_ne (Ne.symm M.dne)]
    exact I1.hok.fresh M.new
/-- error.fld, the error that the suite holds (at a) -/
def tFldErr (C : Addr) (fld : Str) (a : Addr) (cls : Value) (d : Option Addr) (te : TE) : TE := fun σ H Q => te σ H fun x H1 => x = .ref a ∧ cls = .ref C ∧ ∃ (dd : Addr) (v : V), d = some dd ∧ H1 dd = some (.xd [(fld, v)]) ∧ Q v H1
theorem pe_fldErr {a : Addr} {oe : Obj} {cls : Value} {d : Option Addr} {pn : List (Addr × Obj)} {e : Expr} {te : TE} {pos : Pos} (T : ErrTxt X.prog X.K X.mg nm qual msg fld C fI) (hz : Zc cls d oe) (hf : ∃ vs, oe.data = .fields vs) (he : PE (X.suite a ((a, oe) :: pn)) e te)
    (hb : attributeBase e fld X.env (eval e X.env) = eval e X.env) : PE (X.suite a ((a, oe) :: pn)) (.Attribute e fld pos) (tFldErr C fld a cls d te) := by
  refine ⟨fun pins s σ H Q I h => ?_⟩
  refine attr_of hb (thn (he.run pins s σ H _ I h) fun u s1 hh => ?_)
  obtain ⟨x, H1, I1, rx, rfl, rfl, dd, v, rfl, ea, q⟩ := hh
  obtain rfl : u = Value.ref a := rx
  obtain ⟨ha, _⟩ := I1.pin (a, oe) (List.mem_append_left _ List.mem_cons_self)
  obtain ⟨vs, hd⟩ := hf
  have hx : ObjOk X.prog X.w H1 s1.heap dd (.xd [(fld, v)]) := I1.hok dd _ ea
  obtain ⟨mA, hns, hr⟩ := hx
  obtain ⟨od, ho, hl⟩ := lookIn_ns hns
  have l : List.lookup fld [(fld, v)] = some v := by simp [List.lookup]
  obtain ⟨u, hu, ru⟩ := RelO.some_of (v := v) (o := mA fld) (by rw [← l]; exact hr fld)
  have J : PySem.W.InstAt s1.heap a oe C (some od) := ⟨ha, hz.1, by unfold PySem.W.notCls; rw [hd] <;> rfl, by rw [hz.2]; exact ho⟩
  exact HandSPX.exc_get I1.kIn J T.ga T.gg T.oex.exC (PySem.W.findObj_own T.hdC T.noN rfl (by rw [hl, hu])) (handed_of ru) ⟨v, H1, I1.tok _, ru, q⟩
end

/-! ### the promise to let an error out, as an end of a statement -/
def XF (C : Addr) (fld : Str) (E : XK) (n : Int) : Zone → Hp → Prop := fun Z HF => ∀ dd HF' H', Same HF HF' → SK Z HF' H' [] [] [] → H' dd = some (.xd [(fld, .int n)]) → E (.ref C) (some dd) H'
theorem XF.mono {C : Addr} {fld : Str} {E : XK} {n : Int} (Z : Zone) (HF HF' : Hp) (e : Same HF HF') (h : XF C fld E n Z HF) : XF C fld E n Z HF' := fun dd HF2 H' e' S q => h dd HF2 H' (e.trans e') S q
abbrev exO (C : Addr) (fld : Str) (E : XK) (n : Int) : Out := .ex (XF C fld E n) XF.mono
section
variable {X : Cx} {nm qual msg fld : Str} {C fI : Addr} {ρ : En} {ω ω1 : Sto} {a : Expr} {p pos pos2 : Pos} {P : OP} {rest : List Stmt} {k : Nat} {E : XK} {n : Int}
theorem sk_none {Z : Zone} {HF H : Hp} {σ : L2.St} (S : SK Z HF H σ ρ ω) : SK Z HF H [] [] [] := ((Pk.sk (ω' := []) ⟨[], rfl, List.nodup_nil⟩ S)).noenv
/-- raise nm(a) -/
theorem dss_raise (hc : X.calm = true) (T : ErrTxt X.prog X.K X.mg nm qual msg fld C fI) (hr : Room k X.A) (tk : Takes X (fun cls d _ H => E cls d H)) (A : DE X a ρ ω (.v (cI n)) ω1) (h : P (exO C fld E n)) (hg : Gl X nm := by rfl) (hd : (nm == ("__debug__" : Str)) = false := by decide)
    (he : starEach [a] X.env = (false, eval a X.env) :: starEach [] X.env := by rfl) : DSs X (.Raise (some (.Call (.Name nm p) [a] [] pos)) none pos2 :: rest) ρ ω P :=
  pss_mono (pss_cons (ps_raise hc tk (pmk_err T hr (da_one A he) hg hd he)) pss_no) fun E' σ H ⟨Z, HF, S, q⟩ => ⟨Z, HF, S, fun vs HF1 H1 e1 S1 r1 => by
    obtain ⟨v, _, rfl, r1, rfl⟩ := r1
    cases (show v = .int n from r1)
    refine ⟨_, rfl, fun d hd => ?_⟩
    obtain ⟨S2, e2⟩ := S1.newF (.xd [(fld, .int n)]) hd
    exact q _ h d _ _ (e1.trans e2) (sk_none S2) upd_same⟩
end
/-! ### defs that hand back or raise -/
def SpX {A β : Type} (C : Addr) (fld : Str) (m : A → Option (β ⊕ Int)) (ds : A → List D) (d : β → D) : Sp := fun vs H Q E => ∃ x r Z HF, m x = some r ∧ SK Z HF H [] [] [] ∧ RDs HF (ds x) vs ∧
  (∀ y, r = .inl y → ∀ v HF' H', Same HF HF' → SK Z HF' H' [] [] [] → RD HF' (d y) v → Q v H') ∧ (∀ n, r = .inr n → XF C fld E n Z HF)
/-- the ends of such a def -/
def RetX {β : Type} (C : Addr) (fld : Str) (E : XK) (d : β → D) : β ⊕ Int → OP
  | .inl y => fun o => o = .rt (d y) []
  | .inr n => fun o => o = exO C fld E n
section
variable {P : Program} {w : World} {K : PySem.W.Frag} {mg : Str → Option Value} {base : Heap}
theorem fnX_d {A β : Type} {x qual : Str} {st : Stmt} {f : Addr} {fd : FuncData} {N ps : List Str} {k : Nat} {C : Addr} {fld : Str} {m : A → Option (β ⊕ Int)} {ds : A → List D} {d : β → D} (F : Fun K x qual st f fd) (Sc : FnScope N ps (defScope st)) (hl : ∀ x, (ds x).length = ps.length)
    (body : ∀ (cdv : Value) (A : Around) (outer : List Env) (s : Shared) (H : Hp) (E : XK) x r, Room k (A.deeper (PyProof.Rows.envOfC qual (defScope st) s.heap.objs.size f cdv)) → m x = some r →
      DSs (cxOf (L2.CX P w) P w K mg base N qual (defScope st) f cdv A outer s H E) (defBody st) ((ds x).map some ++ List.replicate (N.length - (ds x).length) none) [] (RetX C fld E d r)) : FnOk P w K mg base (L2.CX P w) (k + 1) f fd ps (SpX C fld m ds d) := by
  refine F.okX Sc (fun vs H Q E h => ?_) (fun cdv A outer s H vs Q E hr h => ?_)
  · obtain ⟨x, r, Z, HF, hm, S, rd, _⟩ := h
    rw [rd.length, hl]
  · obtain ⟨x, r, Z, HF, hm, S, rd, q1, q2⟩ := h
    refine ⟨_, body cdv A outer s H E x r hr hm, Z, HF, S.env (by unfold L2.start; simp [rd.length]) fun i d' hd => ?_, fun o po => ?_⟩
    · have hi : i < (ds x).length := by
        by_cases h : i < (ds x).length
        · exact h
        · rw [List.getElem?_append_right (by simp; omega)] at hd
          rw [List.getElem?_replicate] at hd
          split at hd <;> cases hd
      rw [List.getElem?_append_left (by simp; exact hi), List.getElem?_map, List.getElem?_eq_getElem hi] at hd
      have hd' : (ds x)[i] = d' := Option.some.inj (Option.some.inj hd)
      obtain ⟨v, v1, v2⟩ := rd.get (List.getElem?_eq_getElem hi)
      refine ⟨v, ?_, hd' ▸ v2⟩
      unfold L2.start
      rw [List.getElem?_append_left (by simp; rw [rd.length]; exact hi), List.getElem?_map, v1]
      rfl
    · cases r with
      | inl y =>
        cases (show o = .rt (d y) [] from po)
        exact fun v HF' H' e S' r' => q1 y rfl v HF' H' e S' r'
      | inr n =>
        cases (show o = exO C fld E n from po)
        exact q2 n rfl
end
/-! ### calling them -/
section
variable {X : Cx} {nm qual msg fld : Str} {C fI : Addr} {ρ : En} {ω ω1 : Sto} {e : Expr} {es : List Expr} {p pos : Pos} {P : OP} {rest : List Stmt} {k : Nat} {A β : Type} {m : A → Option (β ⊕ Int)} {ds : A → List D} {d : β → D} {g : Str} {f : Addr} {fd : FuncData} {ps : List Str}
theorem passF : Passes (L2.CX X.prog X.w) X (fun _ _ _ => False) := fun _ _ _ _ _ _ _ ⟨_, _, _, _, _, _, _, _, _, _, _, _, h⟩ => h.elim
/-- it hands back -/
theorem de_callX {x : A} {y : β} (F : FnOk X.prog X.w X.K X.mg X.base (L2.CX X.prog X.w) k f fd ps (SpX C fld m ds d)) (hr : Room k X.A) (hm : X.mg g = some (.ref f)) (hk : PySem.W.keepIn X.K (.ref f) = true) (hb : Binds X.K fd ps []) (B : DA X (e :: es) ρ ω (ds x) ω1) (hx : m x = some (.inl y))
    (hg : Gl X g := by rfl) (hdb : (g == ("__debug__" : Str)) = false := by decide) (hs : Sg X e es pos := by exact ⟨rfl, rfl⟩) : DE X (.Call (.Name g p) (e :: es) [] pos) ρ ω (d y) ω1 :=
  pe_mono (pe_call F hr hg hm hk hb .nil passF B hdb hs.he hs.hpl) fun σ H Q ⟨Z, HF, S, q⟩ => ⟨Z, HF, S, fun vs HF1 H1 e1 S1 r1 => by
    show SpX C fld m ds d (vs ++ []) H1 Q _
    rw [List.append_nil]
    obtain ⟨Z', Sp, back⟩ := (show SK Z HF1 H1 σ ρ ([] ++ ω1) from S1).sub
    refine ⟨x, _, Z', HF1, hx, Sp.noenv, r1, fun y' hy v HF2 H2 e2 S2 r2 => ?_, fun n hn => nomatch hn⟩
    cases hy
    exact q v HF2 H2 (e1.trans e2) (S1.back e2 (back HF2 H2 [] [] [] e2 S2)) r2⟩
/-- try: t = g(..) except nm as en: w = en.fld -/
theorem dss_tryX {x : A} {r : β ⊕ Int} (i j l : Nat) {t wn en : Str} {pt np pw pe pa pas apos hp tpos : Pos} (F : FnOk X.prog X.w X.K X.mg X.base (L2.CX X.prog X.w) k f fd ps (SpX C fld m ds d)) (T : ErrTxt X.prog X.K X.mg nm qual msg fld C fI) (hr : Room k X.A) (hm : X.mg g = some (.ref f)) (hk : PySem.W.keepIn X.K (.ref f) = true) (hb : Binds X.K fd ps [])
    (B : ∀ pn xe, DA (X.tr pn xe) (e :: es) ρ ω (ds x) ω) (hx : m x = some r)
    (h1 : ∀ y, r = .inl y → DSs X rest (ρ.set i (some (d y))) ω P) (h2 : ∀ n, r = .inr n → DSs X rest ((ρ.set j (some (.v (cI n)))).set l none) ω P)
    (hst : X.stack = X.env :: X.outer := by rfl) (hfr : X.env.frame = some X.env.locals := by rfl) (hN : X.N.Nodup := by assumption) (hi : X.N[i]? = some t := by rfl) (hj : X.N[j]? = some wn := by rfl) (hl : X.N[l]? = some en := by rfl) (hjl : j ≠ l := by decide) (hlr : decide (l < ρ.length) = true := by rfl)
    (hxi : X.env.scope.names.lookup t = some .local := by rfl) (hxj : X.env.scope.names.lookup wn = some .local := by rfl) (hxl : X.env.scope.names.lookup en = some .local := by rfl) (hkl : X.env.kindOf en = some .local := by rfl)
    (hg : Gl X g := by rfl) (hgn : Gl X nm := by rfl) (hdn : (nm == ("__debug__" : Str)) = false := by decide) (hdb : (g == ("__debug__" : Str)) = false := by decide) (hde : (en == ("__debug__" : Str)) = false := by decide) (hce : (en == ("__classdict__" : Str)) = false := by decide)
    (he : starEach (e :: es) X.env = (false, eval e X.env) :: starEach es X.env := by rfl) (hpl : (backTo pos (starEach es X.env)).any (·.1) = false := by rfl)
    (hs1 : swapsWith (.Call (.Name g p) (e :: es) [] pos) (some (.Name t pt)) apos.line X.env = pure false := by rfl) (hs2 : swapsWith (.Attribute (.Name en pe) fld pa) (some (.Name wn pw)) pas.line X.env = pure false := by rfl)
    (hat : attributeBase (.Name en pe) fld X.env (eval (.Name en pe) X.env) = eval (.Name en pe) X.env := by rfl) :
    DSs X (.Try [.Assign [.Name t pt] (.Call (.Name g p) (e :: es) [] pos) apos] [.ExceptHandler (some (.Name nm np)) (some en) [.Assign [.Name wn pw] (.Attribute (.Name en pe) fld pa) pas] hp] [] [] tpos :: rest) ρ ω P := by
  have tk : Takes X (fun _ _ _ _ => False) := fun _ _ ⟨_, _, _, _, _, _, _, _, _, _, _, _, _, _, _, _, h⟩ => h.elim
  refine dss_gen (P1 := fun o => (∃ y, r = .inl y ∧ o = .nx (ρ.set i (some (d y))) ω) ∨ ∃ n, r = .inr n ∧ o = .nx ((ρ.set j (some (.v (cI n)))).set l none) ω)
    (ps_mono (ps_try_as (c := .ref C) (i := l) (tb := fun W => tAsg (tCallS (SpX C fld m ds d) (WE W) (taD ρ ω (ds x) ω)) (gName i)) (ts := fun a cls dd => tAsg (tFldErr C fld a cls dd (tVar l)) (gName j)) hst hfr hN hl hkl ⟨hgn, hdn, .inl T.gC⟩ tk
      (fun W pn xe tkW _ => pss_one (ps_set hN hi (.inl hxi) (pe_callS F hr hg hm hk hb (passAt tkW) (B pn xe) hdb he hpl) hs1 (.inr hxi)))
      (fun a oe cls dd pn hz hf => pss_one (ps_set hN hj (.inl hxj) (pe_fldErr T hz hf (pe_var hl (.inl hxl) hde hce) hat) hs2 (.inr hxj)))) ?_) ?_ ?_
  · rintro E' σ H ⟨Z, HF, S, q⟩
    refine ⟨Z, HF, S, fun vs HF1 H1 e1 S1 r1 => ?_⟩
    obtain ⟨Z', Sp, back⟩ := (show SK Z HF1 H1 σ ρ ([] ++ ω) from S1).sub
    refine ⟨x, r, Z', HF1, hx, Sp.noenv, r1, fun y hy v HF2 H2 e2 S2 r2 => ?_, fun n hn dd HF2 H2 e2 S2 hdd => ?_⟩
    · have S3 := S1.back e2 (back HF2 H2 [] [] [] e2 S2)
      exact q _ (.inl ⟨y, hy, rfl⟩) _ HF2 H2 (e1.trans e2) (S3.set i r2)
    · have S3 := S1.back e2 (back HF2 H2 [] [] [] e2 S2)
      refine ⟨true, T.te, fun _ a na => ?_, fun z => Bool.noConfusion z⟩
      have hln : l < σ.length := by rw [S1.ln]; exact of_decide_eq_true hlr
      refine ⟨_, List.getElem?_set_self hln, rfl, rfl, dd, _, rfl, hdd, ?_⟩
      show E'.nx _ H2
      have S4 : SK Z HF2 H2 (((σ.set l (some (V.ref a))).set j (some (V.int n))).set l none) ((((ρ.set l none).set j (some (.v (cI n)))).set l none)) ω := ((S3.unset l (some (V.ref a))).set j (d := .v (cI n)) rfl).unset l none
      have eρ : (((ρ.set l none).set j (some (D.v (cI n)))).set l none) = (ρ.set j (some (.v (cI n)))).set l none := by
        rw [List.set_comm _ _ (Ne.symm hjl), List.set_set]
      rw [eρ] at S4
      exact q _ (.inr ⟨n, hn, rfl⟩) _ HF2 H2 (e1.trans e2) S4
  · rintro ρ1 ω1 (⟨y, hy, h⟩ | ⟨n, hn, h⟩)
    · cases h; exact h1 y hy
    · cases h; exact h2 n hn
  · rintro o (⟨y, hy, rfl⟩ | ⟨n, hn, rfl⟩) hno
    · exact absurd trivial hno
    · exact absurd trivial hno
end
end Q
end

section
set_option Elab.async false
set_option linter.all false
set_option maxRecDepth 100000
set_option maxHeartbeats 4000000
/-! LAYER 11: enumerate(xs, 1): the count runs ahead of the place. -/
namespace QE
open PySem
open PySem.Sem (wp)
open PySem.AutoSeq1 (wpAny_loadPart')
section
variable {prog : Program} {w : World} {A : Around} {E : Value → Shared → Prop} {s : Shared}
/-- the next pair, the count m apart from the place i -/
theorem nx_item {e it l : Addr} {i : Nat} {m : Int} {items : Array Value} {x old : Value} {Q : Value → Shared → Prop}
    (k0 : IsEnum s.heap e it m old) (k1 : s.heap.IsListIter it l i) (k2 : s.heap.IsList l items) (k3 : items[i]? = some x) (k4 : e ≠ it)
    (hQ : ∀ h', IsEnumOut h' e it (m + 1) x s.heap.objs.size → h'.IsListIter it l (i + 1) → h'.get? s.heap.objs.size = some { cls := .type "tuple", data := .seq #[.int m s.toks, x] } → h'.objs.size = s.heap.objs.size + 1 →
      (∀ b o, b ≠ e → b ≠ it → s.heap.get? b = some o → h'.get? b = some o) → Q (.ref s.heap.objs.size) { s with heap := h', toks := s.toks + 1 }) :
    wpAny (model prog w) A (Builtin.«enumerate.__next__» ⟨[.ref e], []⟩) (fun fin s' => ∃ v, fin = .done (.ret v) ∧ Q v s') E s := by
  obtain ⟨G0, gs, dr, tok, sy⟩ := s
  show wpAny _ _ (field (.ref e) 2 >>= _) _ _ _
  refine wpAny_bind (wpAny_field k0 rfl (x := .ref it) rfl ?_)
  refine wpAny_bind (wpAny_nextOf_list_item k1 k2 k3 fun G1 p1 q1 => ?_)
  replace q1 : Heap.SameBut it G0 G1 := q1
  have r1 : IsEnum G1 e it m old := (q1.2 e k4).trans k0
  show wpAny _ _ (field (.ref e) 3 >>= _) _ _ ⟨G1, gs, dr, tok, sy⟩
  refine wpAny_bind (wpAny_field r1 rfl (x := rawInt m) rfl ?_)
  show wpAny _ _ (field (.ref e) 4 >>= _) _ _ ⟨G1, gs, dr, tok, sy⟩
  refine wpAny_bind (wpAny_field r1 rfl (x := .none) rfl ?_)
  show wpAny _ _ (mkInt m >>= _) _ _ ⟨G1, gs, dr, tok, sy⟩
  refine wpAny_bind (wpAny_mkInt ?_)
  show wpAny _ _ (setField (.ref e) 3 (rawInt (m + 1)) >>= _) _ _ ⟨G1, gs, dr, tok + 1, sy⟩
  refine wpAny_bind (wpAny_setField_rec r1 (by simp) fun G2 r2 q2 => ?_)
  replace q2 : Heap.SameBut e G1 G2 := q2
  replace r2 : IsEnum G2 e it (m + 1) old := r2
  show wpAny _ _ (setField (.ref e) 4 .none >>= _) _ _ ⟨G2, gs, dr, tok + 1, sy⟩
  refine wpAny_bind (wpAny_setField_rec r2 (by simp) fun G3 r3 q3 => ?_)
  replace q3 : Heap.SameBut e G2 G3 := q3
  replace r3 : IsEnum G3 e it (m + 1) old := r3
  show wpAny _ _ (newTuple [.int m tok, x] >>= _) _ _ ⟨G3, gs, dr, tok + 1, sy⟩
  refine wpAny_bind (wpAny_newTuple ?_)
  have r4 : IsEnum (G3.push { cls := .type "tuple", data := .seq #[.int m tok, x] }) e it (m + 1) old := Heap.get?_push_of_some _ r3
  generalize eq4 : G3.push { cls := .type "tuple", data := .seq #[.int m tok, x] } = G4 at r4
  have sz : G3.objs.size = G0.objs.size := by rw [q3.1, q2.1, q1.1]
  have le0 : e < G0.objs.size := Heap.lt_size k0
  have at4 : G4.get? G0.objs.size = some { cls := .type "tuple", data := .seq #[.int m tok, x] } := by rw [← eq4, ← sz]; exact Heap.get?_push_size _ rfl
  have sz4 : G4.objs.size = G0.objs.size + 1 := by rw [← eq4, Heap.size_push, sz]
  have kp4 : ∀ b o, b ≠ e → b ≠ it → G0.get? b = some o → G4.get? b = some o := fun b o ne1 ne2 hB => by
    rw [← eq4]; exact Heap.get?_push_of_some _ (q3.extBut b o ne1 (q2.extBut b o ne1 (q1.extBut b o ne2 hB)))
  have p4 : G4.IsListIter it l (i + 1) := by
    rw [← eq4]; obtain ⟨o, ho, r⟩ := (p1.extBut q2.extBut (Ne.symm k4)).extBut q3.extBut (Ne.symm k4); exact ⟨o, Heap.get?_push_of_some _ ho, r⟩
  show wpAny _ _ (Builtin.SmallTypes.ownedTupleIsFree (.ref e) >>= _) _ _ ⟨G4, gs, dr, tok + 1, sy⟩
  rw [sz]
  clear eq4 r3 q3 r2 q2 r1 q1 p1 sz G3 G2 G1
  refine wpAny_bind ?_
  · unfold Builtin.SmallTypes.ownedTupleIsFree
    refine wpAny_bind (wpAny_field r4 rfl (x := .none) rfl (wpAny_pure ?_))
    simp only [if_true]
    refine wpAny_bind (wpAny_rule ?_)
    refine wpAny_bind (wpAny_field r4 rfl (x := old) rfl ?_)
    refine wpAny_bind (wpAny_setField_rec r4 (by simp) fun G5 r5 q5 => ?_)
    replace q5 : Heap.SameBut e G4 G5 := q5
    replace r5 : IsEnum G5 e it (m + 1) x := r5
    show wpAny _ _ (Builtin.SmallTypes.ownedTupleHandOut (.ref e) (.ref G0.objs.size) >>= _) _ _ ⟨G5, gs, dr, tok + 1, sy⟩
    refine wpAny_bind ?_
    · unfold Builtin.SmallTypes.ownedTupleHandOut
      refine wpAny_bind (wpAny_setField_rec r5 (by simp) fun G6 r6 q6 => ?_)
      replace q6 : Heap.SameBut e G5 G6 := q6
      replace r6 : IsEnumOut G6 e it (m + 1) x G0.objs.size := r6
      refine wpAny_setField_rec r6 (by simp) fun G7 r7 q7 => ?_
      replace q7 : Heap.SameBut e G6 G7 := q7
      replace r7 : IsEnumOut G7 e it (m + 1) x G0.objs.size := r7
      refine wpAny_bind (wpAny_letGo (wpAny_pure ⟨_, rfl, hQ G7 r7 ?_ ?_ ?_ ?_⟩))
      · exact ((p4.extBut q5.extBut (Ne.symm k4)).extBut q6.extBut (Ne.symm k4)).extBut q7.extBut (Ne.symm k4)
      · exact q7.extBut _ _ (Nat.ne_of_gt le0) (q6.extBut _ _ (Nat.ne_of_gt le0) (q5.extBut _ _ (Nat.ne_of_gt le0) at4))
      · rw [q7.1, q6.1, q5.1, sz4]
      · exact fun b o ne1 ne2 hB => q7.extBut b o ne1 (q6.extBut b o ne1 (q5.extBut b o ne1 (kp4 b o ne1 ne2 hB)))
theorem nx_pair {e it l : Addr} {i : Nat} {m : Int} {items : Array Value} {x old : Value} {Q : Option Value → Shared → Prop}
    (k0 : IsEnum s.heap e it m old) (k1 : s.heap.IsListIter it l i) (k2 : s.heap.IsList l items) (k3 : items[i]? = some x) (k4 : e ≠ it)
    (hQ : ∀ h', IsEnumOut h' e it (m + 1) x s.heap.objs.size → h'.IsListIter it l (i + 1) → h'.get? s.heap.objs.size = some { cls := .type "tuple", data := .seq #[.int m s.toks, x] } → h'.objs.size = s.heap.objs.size + 1 →
      (∀ b o, b ≠ e → b ≠ it → s.heap.get? b = some o → h'.get? b = some o) → Q (some (.ref s.heap.objs.size)) { s with heap := h', toks := s.toks + 1 }) :
    wpAny (model prog w) A (pyNext (.ref e)) Q E s := by
  have ty : s.TypeIs (.ref e) "enumerate" := ⟨_, k0, rfl⟩
  unfold pyNext
  exact wpAny_bind (wpAny_attempt (wpAny_callSpecial?_slot (name := Str.ofString "__next__") ty F.slot_enumerate_next (wpAny_call_entry F.slot_enumerate_next ty F.entry_enumerate_next
      (nx_item k0 k1 k2 k3 k4 fun h' a b c d k => wpAny_pure (hQ h' a b c d k)) (F.args_enumerate_next_1 _))))
theorem nx_end {e it l : Addr} {i : Nat} {m : Int} {items : Array Value} {old : Value} {Q : Option Value → Shared → Prop} (hh : A.handled = none) (k0 : IsEnum s.heap e it m old) (k1 : s.heap.IsListIter it l i) (k2 : s.heap.IsList l items) (k3 : items[i]? = none)
    (hQ : ∀ h', Heap.ExtBut it s.heap h' → Q none { s with heap := h' }) : wpAny (model prog w) A (pyNext (.ref e)) Q E s := by
  have ty : s.TypeIs (.ref e) "enumerate" := ⟨_, k0, rfl⟩
  unfold pyNext
  refine wpAny_bind (wpAny_attempt (wpAny_callSpecial?_slot (name := Str.ofString "__next__") ty F.slot_enumerate_next (wpAny_call_entry F.slot_enumerate_next ty F.entry_enumerate_next (?_ : wpAny _ _ (field (.ref e) 2 >>= _) _ _ _) (F.args_enumerate_next_1 _))))
  refine wpAny_bind (wpAny_field k0 rfl (x := .ref it) rfl (wpAny_bind (wpAny_nextOf_list_end hh k1 k2 k3 fun h' y ext hy => ?_)))
  obtain ⟨o, ho, hc⟩ := hy
  exact wpAny_bind (wpAny_isInstance (T := "StopIteration") (b := true) ⟨o, ho, hc⟩ isSubtype_stop (wpAny_pure (hQ _ ext)))
/-! enumerate(xs, m) -/
theorem tc2 (a b : Value) : checkTypeCall "enumerate" ⟨[a, b], []⟩ = pure () := by kernel_rfl
theorem nc2 (a b : Value) : checkBuiltinCall "enumerate.__new__" ⟨[.type "enumerate", a, b], []⟩ = pure () := by kernel_rfl
theorem meets2 (l : Addr) (m : Int) (tm : Tok) (items : Array Value) (n : Nat) (dct : Option Addr) (sl : Array (Option Value)) (hm : Builtin.SmallTypes.fitsIndex m = true) :
    Meets (Builtin.«enumerate.__new__» ⟨[.type "enumerate", .ref l, .int m tm], []⟩) (fun _ R s => s.heap.get? l = some { cls := .type "list", dict := dct, data := .seq items n, slots := sl } ∧
      R (.ok (.ret (.ref (s.heap.push { cls := .type "list_iterator", data := .fields #[.ref l, .int 0 0] }).objs.size)))
        { s with heap := (s.heap.push { cls := .type "list_iterator", data := .fields #[.ref l, .int 0 0] }).push { cls := .type "enumerate", data := .fields #[.none, .bool false, .ref s.heap.objs.size, rawInt m, .none, .none] } }) :=
  .of_wp fun prog w A R s h => by
    obtain ⟨G0, gs, dr, tok, sy⟩ := s
    obtain ⟨k0, h⟩ := h
    have sb := sub_enumerate
    have kL : Heap.IsList (Shared.heap ⟨G0, gs, dr, tok, sy⟩) l items := ⟨_, k0, rfl, n, rfl⟩
    wp_walk using wpAny_loadPart' k0
    have hm' : (!Builtin.SmallTypes.fitsIndex m) = false := by rw [hm]; rfl
    refine wpAny_stack_any fun st => wpAny_pure ?_
    split
    · rename_i c _ _ _ _ _
      cases (c == Value.type "enumerate") <;> (wp_walk using wpAny_loadPart' k0, wpAny_pyIter_list kL; simp only [hm', Bool.false_eq_true, if_false]; wp_walk using wpAny_loadPart' k0, wpAny_pyIter_list kL; exact ⟨_, rfl, h⟩)
    · wp_walk using wpAny_loadPart' k0, wpAny_pyIter_list kL
      exact ⟨_, rfl, h⟩
theorem call2 {l : Addr} {m : Int} {tm : Tok} {items : Array Value} {Q : Value → Shared → Prop} (hm : Builtin.SmallTypes.fitsIndex m = true) (hL : s.heap.IsList l items)
    (h : ∀ h', IsEnum h' (s.heap.objs.size + 1) s.heap.objs.size m .none → h'.IsListIter s.heap.objs.size l 0 → h'.objs.size = s.heap.objs.size + 2 → (∀ b o, s.heap.get? b = some o → h'.get? b = some o) → Q (.ref (s.heap.objs.size + 1)) { s with heap := h' }) :
    wpAny (model prog w) A (call (.type "enumerate") [.ref l, .int m tm]) Q E s := by
  obtain ⟨⟨cl, dct, dt, sl⟩, k0, k1, n, k2⟩ := hL
  have k1 : cl = .type "list" := k1
  have k2 : dt = .seq items n := k2
  subst k1 k2
  refine callType_new F.called_enumerate (by decide) (tc2 _ _) (nc2 _ _) (fun obj => F.args_object_init_3 obj _ _) F.entry_enumerate_new (meets2 l m tm items n dct sl hm) ⟨k0, (?_ : _ ∧ _)⟩
  have sz : (s.heap.push { cls := .type "list_iterator", data := .fields #[.ref l, .int 0 0] }).objs.size = s.heap.objs.size + 1 := Heap.size_push ..
  rw [sz]
  have r0 : IsEnum ((s.heap.push { cls := .type "list_iterator", data := .fields #[.ref l, .int 0 0] }).push { cls := .type "enumerate", data := .fields #[.none, .bool false, .ref s.heap.objs.size, rawInt m, .none, .none] }) (s.heap.objs.size + 1) s.heap.objs.size m .none := by
    have z := Heap.get?_push_size (s.heap.push { cls := .type "list_iterator", data := .fields #[.ref l, .int 0 0] }) (o := { cls := .type "enumerate", data := .fields #[.none, .bool false, .ref s.heap.objs.size, rawInt m, .none, .none] }) rfl
    rw [sz] at z; exact z
  exact ⟨⟨_, r0, rfl⟩, h _ r0 ⟨_, Heap.get?_push_of_some _ (Heap.get?_push_size _ rfl), rfl, rfl⟩ (by rw [Heap.size_push, sz]) fun b o x => Heap.get?_push_of_some _ (Heap.get?_push_of_some _ x)⟩
end
end QE
namespace Q
open PySem L2
open PySem.Spec PyProof.Rows
/-- the list at a as it stands at each turn, the place counted from m, in new pairs -/
def Itm (K : PySem.W.Frag) (m : Int) (a : Addr) : It :=
  ⟨fun i H => ∃ (xs : List V) (x : V), SqL K H a xs ∧ xs[i]? = some x, fun i H v H' => ∃ T x, v = .ref T ∧ H T = none ∧ H' = upd H T (.tup [.int (m + (i : Nat)), x]) ∧ ∀ xs, SqL K H a xs → xs[i]? = some x, fun i H => ∃ xs : List V, SqL K H a xs ∧ xs.length ≤ i⟩
theorem turn_m {P : Program} {w : World} {K : PySem.W.Frag} {elts : List Expr} {kk : Nat} {tpos : Pos} (m : Int) (a e it : Addr) :
    Turn P w K (.Tuple elts kk tpos) (Itm K m a) [e, it] e (fun i h => (∃ old, IsEnum h e it (m + ((i : Nat) : Int)) old) ∧ h.IsListIter it a i ∧ e ≠ it) where
  mem := by simp
  obj := fun i h st b hb => by
    obtain ⟨⟨old, k0⟩, ⟨o, ho, hc, hd⟩, _⟩ := st
    rcases (show b = e ∨ b = it by simpa using hb) with z | z
    · rw [z]; exact ⟨_, k0, fun v q => nomatch q⟩
    · rw [z]; exact ⟨o, ho, fun v q => by rw [hd] at q; cases q⟩
  keep := fun i h h' st k => let ⟨⟨old, k0⟩, hi, k4⟩ := st; ⟨⟨old, k e (by simp) _ k0⟩, hi.at fun o q => k it (by simp) o q, k4⟩
  item := by
    intro X hP hw hK hc i pins s σ H E I hf st hg
    subst hP hw hK
    obtain ⟨⟨old, k0⟩, k1, k4⟩ := st
    obtain ⟨xs, x, hq, hx⟩ := hg
    obtain ⟨its, rv, p, hz⟩ := I.list hq
    obtain ⟨u, hu, ru⟩ := rv.get hx
    have le0 : e < s.heap.objs.size := Heap.lt_size k0
    have li0 : it < s.heap.objs.size := by obtain ⟨_, q, _⟩ := k1; exact Heap.lt_size q
    refine QE.nx_pair k0 k1 p.isList (x := u) (by simpa using hu) k4 fun h' ho k1' hT hsz hk => ?_
    refine ⟨_, rfl, wpAny_letOwnedTupleGo_enum (s := { s with heap := h', toks := s.toks + 1 }) ho fun h'' he' sb => ?_⟩
    have hT2 : h''.get? s.heap.objs.size = some { cls := .type "tuple", data := .seq #[.int (m + (i : Nat)) s.toks, u] } := (sb.2 _ (Nat.ne_of_gt le0)).trans hT
    have new : ObjOk X.prog X.w (upd H s.heap.objs.size (.tup [.int (m + (i : Nat)), x])) h'' s.heap.objs.size (.tup [.int (m + (i : Nat)), x]) :=
      ⟨by show 2 ≤ sizeLine; decide, [.int (m + (i : Nat)) s.toks, u], .cons ⟨_, rfl⟩ (.cons ru .nil), ⟨_, hT2, rfl, _, rfl⟩⟩
    have I1 : Inv X pins σ (upd H s.heap.objs.size (.tup [.int (m + (i : Nat)), x])) { s with heap := h'', toks := s.toks + 1 } :=
      I.turnedNew (ch := [e, it]) (fun b ob hb q => (sb.2 b (fun z => hb (by simp [z]))).trans (hk b ob (fun z => hb (by simp [z])) (fun z => hb (by simp [z])) q)) hf (Nat.le_refl _) new
    refine ⟨.ref s.heap.objs.size, _, I1, rfl, ⟨_, x, rfl, I.hok.fresh (Nat.le_refl _), rfl, fun ys hy => by rw [I.list_inj hy hq]; exact hx⟩, ⟨⟨u, ?_⟩, k1'.at fun o q => (sb.2 it (Ne.symm k4)).trans q, k4⟩, fun b hb => ?_⟩
    · have e1 : m + ((i + 1 : Nat) : Int) = m + (i : Int) + 1 := by omega
      rw [e1]; exact he'
    · rw [upd_ne (Nat.ne_of_lt (by rcases (show b = e ∨ b = it by simpa using hb) with z | z <;> (rw [z]; assumption)))]
      exact (hf b hb).1
  done := by
    intro X hP hw hK hc i pins s σ H E I hf st hg
    subst hP hw hK
    obtain ⟨⟨old, k0⟩, k1, k4⟩ := st
    obtain ⟨xs, hq, hx⟩ := hg
    obtain ⟨its, rv, p, hz⟩ := I.list hq
    obtain ⟨f0, f1, f2, f3, f4, f5⟩ := hf it (by simp)
    have hl := rv.length
    exact QE.nx_end (I.ok.hd hc) k0 k1 p.isList (by simp; omega) fun h' eb => ⟨rfl, I.turned (t' := s.toks) (fun b o hb q => eb b o hb q) f0 f1 f3 f4 f5⟩
  self := fun A i s Q E st h => let ⟨⟨_, k0⟩, _⟩ := st; wpAny_pyIter_enum k0 h
def iEnm (K : PySem.W.Frag) (ta : TA) : TI := fun σ H R => ta σ H fun vs H1 => ∃ a xs m, vs = [.ref a, .int m] ∧ Builtin.SmallTypes.fitsIndex m = true ∧ SqL K H1 a xs ∧ R (Itm K m a) H1
theorem pi_enm {X : Cx} {e e2 : Expr} {ta : TA} {p pos tpos : Pos} {elts : List Expr} {kk : Nat} (hg : Gl X "enumerate") (hm : X.mg "enumerate" = none) (ha : PA X [e, e2] ta) (hs : starEach [e, e2] X.env = (false, eval e X.env) :: starEach [e2] X.env)
    (hpl : (backTo pos (starEach [e2] X.env)).any (·.1) = false) : PI X (.Tuple elts kk tpos) (.Call (.Name "enumerate" p) [e, e2] [] pos) (iEnm X.K ta) := by
  refine ⟨fun pins s σ H R I h => ?_⟩
  refine Call_ (ld_blt I hg hm boot_enumerate (PyProof.Rows.callWith_type1 (thn (ha.run pos pins s σ H _ I h) fun us s1 ⟨vs, H1, I1, r1, q1⟩ => ?_) hs hpl))
  obtain ⟨a, xs, m, rfl, hmm, hq, q⟩ := q1
  obtain ⟨u1, u2, rfl, ra, ri⟩ := vals2 r1
  cases ra
  obtain ⟨tm, rfl⟩ := ri
  obtain ⟨its, rv, p', hz⟩ := I1.list hq
  refine QE.call2 hmm p'.isList fun h' k0 k1 hsz hk => wpAny_pyIter_enum k0 ?_
  have I2 : Inv X pins σ H1 { s1 with heap := h' } := I1.kept (t' := s1.toks) hk
  refine ⟨s1.heap.objs.size + 1, [s1.heap.objs.size + 1, s1.heap.objs.size], _, _, H1, rfl, I2, turn_m m a (s1.heap.objs.size + 1) s1.heap.objs.size, ⟨⟨.none, by rw [Int.natCast_zero, Int.add_zero]; exact k0⟩, k1, Nat.succ_ne_self _⟩, fun b hb => ?_, q⟩
  have hle : s1.heap.objs.size ≤ b := by
    rcases (show b = s1.heap.objs.size + 1 ∨ b = s1.heap.objs.size by simpa using hb) with z | z
    · rw [z]; exact Nat.le_add_right _ _
    · rw [z]; exact Nat.le_refl _
  exact I1.fpOk hle (I1.hok.fresh hle)
end Q
end

section
set_option Elab.async false
set_option linter.all false
set_option maxRecDepth 100000
set_option maxHeartbeats 4000000
/-! LAYER 12: dicts with tuple keys; a dict of three such dicts; sorted(d); the walk over enumerate(xs, m). -/
namespace Q
open PySem L2 TL

/-! ### keys -/
def kD : Key → PyData
  | .inl i => .int i
  | .inr x => .str x
abbrev keyD (k : List Key) : PyData := .tuple (k.map kD)
def key1 : PyData → Option Key
  | .int i => some (.inl i)
  | .str x => some (.inr x)
  | _ => none
def keyL : List PyData → Option (List Key)
  | [] => some []
  | p :: ps => (key1 p).bind fun k => (keyL ps).map fun r => k :: r
/-- flat data as a key -/
def keyT : PyData → Option (List Key)
  | .tuple ps => keyL ps
  | _ => none
theorem key1_rp {H : Hp} {p : PyData} {k : Key} {v : V} (h : key1 p = some k) (r : Rp H p v) : v = kV k ∧ p = kD k ∧ okK k := by
  cases p <;> first | (cases h; done) | skip
  · cases h; exact ⟨r, rfl, trivial⟩
  · cases h; exact ⟨r.1, rfl, r.2⟩
theorem keyL_rp {H : Hp} : ∀ {ps : List PyData} {ks : List Key} {vs : List V}, keyL ps = some ks → Rps H ps vs → vs = ks.map kV ∧ ps = ks.map kD ∧ ∀ k ∈ ks, okK k
  | [], ks, vs, h, r => by cases h; cases r; exact ⟨rfl, rfl, fun _ h => nomatch h⟩
  | p :: ps, ks, vs, h, r => by
    obtain ⟨k, hk, h⟩ := bnd h
    cases hl : keyL ps with
    | none => rw [hl] at h; cases h
    | some r' =>
      rw [hl] at h
      cases (some_i h)
      obtain ⟨v, t, rfl, h1, h2⟩ := r
      obtain ⟨e1, e2, e3⟩ := key1_rp hk h1
      obtain ⟨f1, f2, f3⟩ := keyL_rp hl h2
      refine ⟨by rw [e1, f1]; rfl, by rw [e2, f2]; rfl, fun x hx => ?_⟩
      rcases List.mem_cons.mp hx with rfl | hx
      · exact e3
      · exact f3 x hx
theorem keyT_rp {H : Hp} {p : PyData} {k : List Key} {v : V} (h : keyT p = some k) (r : Rp H p v) : p = keyD k ∧ ∃ b, v = .ref b ∧ H b = some (.tup (k.map kV)) ∧ k.length ≤ sizeLine ∧ ∀ x ∈ k, okK x := by
  cases p <;> first | (cases h; done) | skip
  obtain ⟨a, vs, rfl, h1, h2, h3⟩ := r
  obtain ⟨e1, e2, e3⟩ := keyL_rp h h3
  refine ⟨by rw [keyD, ← e2], a, rfl, by rw [← e1]; exact h1, ?_, e3⟩
  rw [e1, List.length_map] at h2; exact h2
/-! ### a[k] = v -/
def putD {κ : Type} [DecidableEq κ] (kvs : List (κ × PyData)) (k : κ) (p : PyData) : List (κ × PyData) :=
  if (kvs.any fun x => decide (x.1 = k)) = true then kvs.map (fun x => if x.1 = k then (x.1, p) else x) else kvs ++ [(k, p)]
section
variable {κ : Type} [DecidableEq κ] {H : Hp}
theorem rkv_any {kvs : List (κ × PyData)} {kv : List (κ × V)} (r : RKV H kvs kv) (k : κ) : (kvs.any fun x => decide (x.1 = k)) = kv.any fun x => decide (x.1 = k) := by
  induction r with
  | nil => rfl
  | cons h t ih => rw [List.any_cons, List.any_cons, ih, h.1]
theorem rkv_set {kvs : List (κ × PyData)} {kv : List (κ × V)} {k : κ} {p : PyData} {v : V} (r : RKV H kvs kv) (rp : Rp H p v) : RKV H (kvs.map (fun x => if x.1 = k then (x.1, p) else x)) (kv.map (fun x => if x.1 = k then (x.1, v) else x)) := by
  induction r with
  | nil => exact .nil
  | @cons x y xs ys h t ih =>
    rw [List.map_cons, List.map_cons]
    refine .cons ?_ ih
    obtain ⟨x1, x2⟩ := x
    obtain ⟨y1, y2⟩ := y
    obtain ⟨h1, h2⟩ := h
    cases (show x1 = y1 from h1)
    by_cases e : x1 = k
    · simp only [if_pos e]; exact ⟨trivial, rp⟩
    · simp only [if_neg e]; exact ⟨trivial, h2⟩
theorem rkv_app {a b : List (κ × PyData)} {c d : List (κ × V)} (r : RKV H a c) (q : RKV H b d) : RKV H (a ++ b) (c ++ d) := by
  induction r with
  | nil => exact q
  | cons h t ih => exact .cons h ih
theorem rkv_put {kvs : List (κ × PyData)} {kv : List (κ × V)} {k : κ} {p : PyData} {v : V} (r : RKV H kvs kv) (rp : Rp H p v) : RKV H (putD kvs k p) (L2.putK kv k v) := by
  unfold putD L2.putK
  rw [rkv_any r k]
  split
  · exact rkv_set r rp
  · exact rkv_app r (.cons ⟨rfl, rp⟩ .nil)
theorem rkv_keys {kvs : List (κ × PyData)} {kv : List (κ × V)} (r : RKV H kvs kv) : kv.map (·.1) = kvs.map (·.1) := by
  induction r with
  | nil => rfl
  | cons h t ih => rw [List.map_cons, List.map_cons, ih, h.1]
end
/-- the keys alone, all at True -/
def insK {κ : Type} [DecidableEq κ] (ks : List κ) (k : κ) : List κ := if k ∈ ks then ks else ks ++ [k]
abbrev tK {κ : Type} (ks : List κ) : List (κ × PyData) := ks.map fun k => (k, cB true)
theorem putD_tK {κ : Type} [DecidableEq κ] (ks : List κ) (k : κ) : putD (tK ks) k (cB true) = tK (insK ks k) := by
  unfold putD insK tK
  have e : ((ks.map fun k => (k, cB true)).any fun x => decide (x.1 = k)) = decide (k ∈ ks) := by
    rw [List.any_map]
    induction ks with
    | nil => rfl
    | cons a l ih =>
      rw [List.any_cons, ih]
      show (decide (a = k) || decide (k ∈ l)) = decide (k ∈ a :: l)
      rw [← Bool.decide_or]
      congr 1
      rw [List.mem_cons]
      exact propext ⟨fun h => h.imp Eq.symm id, fun h => h.imp Eq.symm id⟩
  rw [e]
  by_cases h : k ∈ ks
  · rw [decide_eq_true h, if_pos rfl, if_pos h, List.map_map]
    refine List.map_congr_left fun x _ => ?_
    show (if x = k then (x, cB true) else (x, cB true)) = (x, cB true)
    split <;> rfl
  · rw [decide_eq_false h, if_neg Bool.false_ne_true, if_neg h, List.map_append]; rfl
theorem okTs_put {kvs : List (List Key × PyData)} {k : List Key} {p : PyData} (h : okTs kvs) (hk : k.length ≤ sizeLine ∧ ∀ x ∈ k, okK x) : okTs (putD kvs k p) := by
  unfold putD
  split
  · intro q hq
    obtain ⟨x, hx, rfl⟩ := List.mem_map.mp hq
    split
    · exact h x hx
    · exact h x hx
  · intro q hq
    rcases List.mem_append.mp hq with hq | hq
    · exact h q hq
    · cases List.mem_singleton.mp hq; exact hk
section
variable {X : Cx} {ρ ρ' : En} {ω ω' ω1 ω2 ω3 : Sto} {d d1 d2 : D} {e a b o ix : Expr} {pos p1 : Pos} {P : OP} {rest : List Stmt} {k : Nat}
/-- o[ix] = e, o an owned dict whose keys are tuples -/
theorem dss_putT (j : Nat) {ω' : Sto} {l : Addr} {q p : PyData} {kk : List Key} {kvs : List (List Key × PyData)} (hr : Room k X.A) (A : DE X e ρ ω (.v q) ω1) (B : DE X o ρ ω1 (.adr l) ω2) (C : DE X ix ρ ω2 (.v p) ω3) (hk : keyT p = some kk) (hz : kvs.length < sizeLine) (R : DSs X rest ρ ω' P)
    (hj : ω3[j]? = some (l, .dT kvs) := by rfl) (hω : ω3.set j (l, .dT (putD kvs kk q)) = ω' := by rfl) (hs : swapsWith e (some (.Subscript o ix p1)) pos.line X.env = pure false := by rfl) : DSs X (.Assign [.Subscript o ix p1] e pos :: rest) ρ ω P :=
  dss_step (ps_dput (by have := hr.units; omega) B C A hs) R fun E σ H Z HF S q' => ⟨Z, HF, S, fun v HF1 H1 e1 S1 r1 => ⟨Z, HF1, S1, fun x HF2 H2 e2 S2 r2 => ⟨Z, HF2, S2, fun y HF3 H3 e3 S3 r3 => by
    cases (show x = .ref l from r2)
    obtain ⟨hp, b, rfl, hb, hl, hok⟩ := keyT_rp hk (RD.rp r3)
    obtain ⟨fp, rfl, kv, h1, h2, h3⟩ := S3.cell hj
    have rq : Rp HF3 q v := (RD.rp r1).mono (e2.trans e3)
    have hlen : kv.length < sizeLine := by
      have e := congrArg List.length (rkv_keys h2)
      rw [List.length_map, List.length_map] at e
      rw [e]; exact hz
    refine ⟨l, _, rfl, DPut.t h1 (S3.fh _ _ hb) hlen, ?_⟩
    subst hω
    refine q' σ HF3 _ ((e1.trans e2).trans e3) (S3.wrote hj fun fp c nd => ?_)
    obtain ⟨rfl, kv', k1, k2, k3⟩ := c
    rw [h1] at k1; cases k1
    exact ⟨[l], ⟨rfl, _, upd_same, rkv_put k2 rq, okTs_put k3 ⟨hl, hok⟩⟩, by simp, fun b hb => .inl hb, fun b n _ => upd_ne fun z => n (by rw [z]; exact List.mem_singleton.mpr rfl)⟩⟩⟩⟩
end
/-! ### a dict of three new dicts -/
abbrev kW (w : Wd) : Key := .inr (S w)
section
variable {X : Cx} {ρ ρ' : En} {ω ω' ω1 ω2 ω3 : Sto} {d d1 d2 : D} {e a b o ix : Expr} {pos p1 : Pos} {P : OP} {rest : List Stmt} {k : Nat}
theorem cell_dT0 {HF H : Hp} {p : Addr} : CellR HF (upd H p (.dT [])) p [p] (.dT []) := ⟨rfl, [], upd_same, .nil, fun _ h => nomatch h⟩
theorem merge3 {k0 k1 k2 : Key} {a b c : V} (h1 : k0 ≠ k1) (h2 : k0 ≠ k2) (h3 : k1 ≠ k2) : mergeK [] [(k0, a), (k1, b), (k2, c)] = [(k0, a), (k1, b), (k2, c)] := by
  simp [mergeK, L2.putK, h1, h2, h3]
theorem dss_setA3 (i : Nat) (w0 w1 w2 : Wd) {x : Str} {x0 x1 x2 : Str} {px q0 q1 q2 r0 r1 r2 dp : Pos} {j0 j1 j2 : Nat}
    (R : ∀ a0 a1 a2, DSs X rest (ρ.set i (some (.dA [(kW w0, a0), (kW w1, a1), (kW w2, a2)]))) (ω ++ [(a0, .dT []), (a1, .dT []), (a2, .dT [])]) P) (h0 : (x0 == S w0 && x1 == S w1 && x2 == S w2) = true := by decide +kernel) (hne : (decide (w0 ≠ w1) && decide (w0 ≠ w2) && decide (w1 ≠ w2)) = true := by decide +kernel)
    (hi : X.N[i]? = some x := by rfl) (hN : X.N.Nodup := by assumption) (hx : Loc X.env.scope x := by first | exact .inl rfl | exact .inr rfl)
    (hs : swapsWith (.Dict [some (.Constant (.str x0) j0 q0), some (.Constant (.str x1) j1 q1), some (.Constant (.str x2) j2 q2)] [.Dict [] [] r0, .Dict [] [] r1, .Dict [] [] r2] dp) (some (.Name x px)) pos.line X.env = pure false := by rfl)
    (hf : X.fn x = true ∨ X.env.scope.names.lookup x = some .local := by first | exact .inl rfl | exact .inr rfl) :
    DSs X (.Assign [.Name x px] (.Dict [some (.Constant (.str x0) j0 q0), some (.Constant (.str x1) j1 q1), some (.Constant (.str x2) j2 q2)] [.Dict [] [] r0, .Dict [] [] r1, .Dict [] [] r2] dp) pos :: rest) ρ ω P := by
  simp only [Bool.and_eq_true, beq_iff_eq, decide_eq_true_eq] at h0 hne
  obtain ⟨⟨rfl, rfl⟩, rfl⟩ := h0
  obtain ⟨⟨n1, n2⟩, n3⟩ := hne
  have m1 : kW w0 ≠ kW w1 := fun h => n1 (S_inj (Sum.inr.inj h))
  have m2 : kW w0 ≠ kW w2 := fun h => n2 (S_inj (Sum.inr.inj h))
  have m3 : kW w1 ≠ kW w2 := fun h => n3 (S_inj (Sum.inr.inj h))
  refine pss_mono (pss_cons (ps_set hN hi hx (pe_disp (pps_cons pe_str pe_dnewT (pps_cons pe_str pe_dnewT (pps_cons pe_str pe_dnewT pps_nil))) rfl rfl (List.cons_ne_nil _ _) (by show 3 ≤ 15; decide)) hs hf) (pss_any fun y : Addr × Addr × Addr => R y.1 y.2.1 y.2.2)) fun E σ H ⟨Z, HF, Sk, q⟩ => ?_
  refine fun p hp a0 ha0 a1 ha1 a2 ha2 => ?_
  have p0 : p ≠ a0 := fun z => by rw [← z, upd_same] at ha0; cases ha0
  have e1 : a0 ≠ a1 := fun z => by rw [← z, upd_same] at ha1; cases ha1
  have p1' : p ≠ a1 := fun z => by rw [upd_ne (Ne.symm e1), ← z, upd_same] at ha1; cases ha1
  have e2 : a1 ≠ a2 := fun z => by rw [← z, upd_same] at ha2; cases ha2
  have e3 : a0 ≠ a2 := fun z => by rw [upd_ne (Ne.symm e2), ← z, upd_same] at ha2; cases ha2
  have p2' : p ≠ a2 := fun z => by rw [upd_ne (Ne.symm e2), upd_ne (Ne.symm e3), ← z, upd_same] at ha2; cases ha2
  have hH0 : H a0 = none := by rw [upd_ne (Ne.symm p0)] at ha0; exact ha0
  have hH1 : H a1 = none := by rw [upd_ne (Ne.symm e1), upd_ne (Ne.symm p1')] at ha1; exact ha1
  have hH2 : H a2 = none := by rw [upd_ne (Ne.symm e2), upd_ne (Ne.symm e3), upd_ne (Ne.symm p2')] at ha2; exact ha2
  refine ⟨by rw [upd_ne p2', upd_ne p1', upd_ne p0, upd_same], [(kW w0, .ref a0), (kW w1, .ref a1), (kW w2, .ref a2)], rfl, by show 3 ≤ 15; decide, (a0, a1, a2), ?_⟩
  rw [merge3 m1 m2 m3]
  obtain ⟨S1, f1⟩ := Sk.newF (.dK [(kW w0, .ref a0), (kW w1, .ref a1), (kW w2, .ref a2)]) hp
  have g0 : upd H p (.dK [(kW w0, .ref a0), (kW w1, .ref a1), (kW w2, .ref a2)]) a0 = none := by rw [upd_ne (Ne.symm p0)]; exact hH0
  have S2 := S1.newC g0 cell_dT0
  have g1 : upd (upd H p (.dK [(kW w0, .ref a0), (kW w1, .ref a1), (kW w2, .ref a2)])) a0 (.dT []) a1 = none := by rw [upd_ne (Ne.symm e1), upd_ne (Ne.symm p1')]; exact hH1
  have S3 := S2.newC g1 cell_dT0
  have g2 : upd (upd (upd H p (.dK [(kW w0, .ref a0), (kW w1, .ref a1), (kW w2, .ref a2)])) a0 (.dT [])) a1 (.dT []) a2 = none := by rw [upd_ne (Ne.symm e2), upd_ne (Ne.symm e3), upd_ne (Ne.symm p2')]; exact hH2
  have S4 := S3.newC g2 cell_dT0
  rw [List.append_assoc, List.append_assoc] at S4
  have eH : upd (upd (upd (upd H p (.dK [(kW w0, .ref a0), (kW w1, .ref a1), (kW w2, .ref a2)])) a0 (.dT [])) a1 (.dT [])) a2 (.dT []) = upd (upd (upd (upd (upd H p (.dK [])) a0 (.dT [])) a1 (.dT [])) a2 (.dT [])) p (.dK [(kW w0, .ref a0), (kW w1, .ref a1), (kW w2, .ref a2)]) := by
    funext b
    by_cases hb : b = p
    · subst hb; rw [upd_same, upd_ne p2', upd_ne p1', upd_ne p0, upd_same]
    · rw [upd_ne (H := upd _ a2 _) hb]
      by_cases hb2 : b = a2
      · subst hb2; rw [upd_same, upd_same]
      · rw [upd_ne hb2, upd_ne hb2]
        by_cases hb1 : b = a1
        · subst hb1; rw [upd_same, upd_same]
        · rw [upd_ne hb1, upd_ne hb1]
          by_cases hb0 : b = a0
          · subst hb0; rw [upd_same, upd_same]
          · rw [upd_ne hb0, upd_ne hb0, upd_ne hb, upd_ne hb]
  rw [eH] at S4
  exact ⟨Z, _, S4.set i (d := .dA [(kW w0, a0), (kW w1, a1), (kW w2, a2)]) ⟨p, rfl, .inl upd_same⟩, fun o po => (q o po).mono f1⟩
theorem find_any {α : Type} (p : α → Bool) : ∀ l : List α, (l.find? p).isSome = l.any p
  | [] => rfl
  | a :: l => by
    rw [List.find?_cons, List.any_cons]
    cases h : p a with
    | true => rfl
    | false => rw [Bool.false_or]; exact find_any p l
theorem kW_eq {u w : Wd} : decide (kW u = kW w) = decide (w = u) := by
  by_cases h : w = u
  · subst h; simp
  · rw [decide_eq_false h, decide_eq_false (fun e => h (S_inj (Sum.inr.inj e)).symm)]
/-- w in found -/
theorem dt_inA3 {w w0 w1 w2 : Wd} {a0 a1 a2 : Addr} (hr : Room k X.A) (A : DE X a ρ ω (.v (cS w)) ω1) (B : DE X b ρ ω1 (.dA [(kW w0, a0), (kW w1, a1), (kW w2, a2)]) ω2) (hm : behindInMarks .In b = false := by first | exact nomark _ | rfl) : DT X (.Compare a [.In] [b] pos) ρ ω (decide (w ∈ ([w0, w1, w2] : List Wd))) ω2 :=
  pt_mono (pt_cmp (pc_din (by have := hr.units; omega) A B) hm) fun σ H Q ⟨Z, HF, Sk, q⟩ => ⟨Z, HF, Sk, fun v HF1 H1 e1 S1 r1 => ⟨Z, HF1, S1, fun u HF2 H2 e2 S2 r2 => by
    obtain ⟨rfl, _, _⟩ := RD.word r1
    obtain ⟨p, rfl, hp⟩ := r2
    refine ⟨p, _, rfl, .inl ⟨_, kW w, (rd_mono S2.fh hp), rfl, rfl⟩, _, rfl, ?_⟩
    have e : (valV ([(kW w0, a0), (kW w1, a1), (kW w2, a2)].map fun (y : Key × Addr) => (y.1, V.ref y.2)) (kW w)).isSome = decide (w ∈ ([w0, w1, w2] : List Wd)) := by
      unfold valV
      rw [Option.isSome_map, find_any]
      show (decide (kW w0 = kW w) || (decide (kW w1 = kW w) || (decide (kW w2 = kW w) || false))) = _
      rw [kW_eq, kW_eq, kW_eq, Bool.or_false, ← Bool.decide_or, ← Bool.decide_or]
      congr 1
      simp
    rw [e]
    exact q HF2 H2 (e1.trans e2) S2⟩⟩
/-- found[w] -/
theorem de_getA {w : Wd} {kvs : List (Key × Addr)} {l : Addr} (hr : Room k X.A) (A : DE X a ρ ω (.dA kvs) ω1) (B : DE X b ρ ω1 (.v (cS w)) ω2) (h : (kvs.find? fun y => decide (y.1 = kW w)) = some (kW w, l)) (hs : NoSl b := by exact fun _ _ => rfl) : DE X (.Subscript a b pos) ρ ω (.adr l) ω2 :=
  pe_mono (pe_dget (by have := hr.units; omega) A B hs) fun σ H Q ⟨Z, HF, Sk, q⟩ => ⟨Z, HF, Sk, fun v HF1 H1 e1 S1 r1 => ⟨Z, HF1, S1, fun u HF2 H2 e2 S2 r2 => by
    obtain ⟨rfl, _, _⟩ := RD.word r2
    obtain ⟨p, rfl, hp⟩ := r1
    refine ⟨p, .ref l, rfl, .inl ⟨_, kW w, (rd_mono (e2.trans S2.fh) hp), rfl, ?_⟩, q _ HF2 H2 (e1.trans e2) S2 rfl⟩
    unfold valV
    rw [List.find?_map]
    have e : (((fun (kv : Key × V) => decide (kv.1 = kW w)) ∘ fun (p : Key × Addr) => (p.1, V.ref p.2))) = fun (y : Key × Addr) => decide (y.1 = kW w) := rfl
    rw [e, h]
    rfl⟩⟩
theorem find3_0 {w0 w1 w2 : Wd} {a0 a1 a2 : Addr} : (([(kW w0, a0), (kW w1, a1), (kW w2, a2)] : List (Key × Addr)).find? fun y => decide (y.1 = kW w0)) = some (kW w0, a0) := by simp
theorem find3_1 {w0 w1 w2 : Wd} {a0 a1 a2 : Addr} (h : w1 ≠ w0) : (([(kW w0, a0), (kW w1, a1), (kW w2, a2)] : List (Key × Addr)).find? fun y => decide (y.1 = kW w1)) = some (kW w1, a1) := by
  rw [List.find?_cons_of_neg (by show ¬ decide (kW w0 = kW w1) = true; rw [kW_eq]; simp [h])]; simp
theorem find3_2 {w0 w1 w2 : Wd} {a0 a1 a2 : Addr} (h : w2 ≠ w0) (h' : w2 ≠ w1) : (([(kW w0, a0), (kW w1, a1), (kW w2, a2)] : List (Key × Addr)).find? fun y => decide (y.1 = kW w2)) = some (kW w2, a2) := by
  rw [List.find?_cons_of_neg (by show ¬ decide (kW w0 = kW w2) = true; rw [kW_eq]; simp [h]), List.find?_cons_of_neg (by show ¬ decide (kW w1 = kW w2) = true; rw [kW_eq]; simp [h'])]; simp
end
end Q
end

section
set_option Elab.async false
set_option linter.all false
set_option maxRecDepth 100000
set_option maxHeartbeats 4000000
/-! LAYER 13: sorted(d), d a dict with tuple keys; enumerate(xs, m) walked; a list of three new lists. -/
namespace Srt
open PySem PySem.W PySem.Calls PyProof.Rows
variable {prog : Program} {w : World} {A : Around} {E : Value → Shared → Prop} {s : Shared}
/-- what a dict's walk gives, collected -/
theorem collect_kdl {T : String} {r d : Addr} {n : Nat} {P : Nat → Value → Prop} {OK : Heap → Prop} {Q : List Value → Shared → Prop} (K : KdlSrc prog w T r d n P OK) (hh : A.handled = none) (hok : OK s.heap) (hn : n ≤ sizeLine)
    (h : ∀ h' tk acc', (∀ b o, s.heap.get? b = some o → h'.get? b = some o) → s.heap.objs.size < h'.objs.size → ItemsOf P acc' n → Q acc'.toList { s with heap := h', toks := tk }) :
    wpAny (model prog w) A (collect (.ref r)) Q E s := by
  unfold collect
  refine wpAny_bind (wpAny_runValue (codeAny_builtin entry_proto_collect' (?_ : wpAny _ _ (do again (.builtin "list.__iadd__" ⟨[← newList [], .ref r], []⟩)) _ _ s)))
  refine wpAny_bind (wpAny_newList (wpAny_pure ⟨Code.quiet_builtin _ (by decide +kernel), codeAny_builtin entry_list_iadd' (?_ : wpAny _ _ (Builtin.List.listExtendWith (.ref s.heap.objs.size) (.ref r) (.ref s.heap.objs.size)) _ _ { s with heap := s.heap.push (seqObj "list" #[] 0) })⟩))
  have lt := K.there _ hok
  rw [Around.under_plainId (by decide +kernel) _]
  refine kdl_extend (R := fun r s' => match r with
    | .ok (.ret v) => wpAny (model prog w) A (match v with
      | .ref a => (do
        let o ← load a
        match o.data with
        | .seq xs _ => pure xs.toList
        | _ => unsupported "internal:collect")
      | _ => unsupported "internal:collect") Q E s'
    | .ok _ => False
    | .error e => E e s') (s := { s with heap := s.heap.push (seqObj "list" #[] 0) }) K hh (K.keep _ _ hok fun b _ o e => Heap.get?_push_of_some _ e) s.heap.objs.size (Nat.ne_of_gt lt.1) (Nat.ne_of_gt lt.2) _ 0 (Heap.get?_push_size _ rfl) (fun h' tk acc' c' hk hS' hacc => ?_) hn
  show wpAny (model prog w) A (do
      let o ← load s.heap.objs.size
      match o.data with
      | .seq xs _ => pure xs.toList
      | _ => unsupported "internal:collect") Q E { s with heap := h', toks := tk }
  exact wpAny_bind (wpAny_load hS' (wpAny_pure (h h' tk acc' (fun b o e => hk b o (Nat.ne_of_lt (Heap.lt_size e)) (Heap.get?_push_of_some _ e)) (Heap.lt_size hS') hacc)))
theorem sorted_kdl {β : Type} {bs : List β} {enc : β → PyData} {R : Value → β → Prop} {T : String} {r d : Addr} {n : Nat} {P : Nat → Value → Prop} {OK : Heap → Prop} {Q : Value → Shared → Prop} (K : KdlSrc prog w T r d n P OK) (hh : A.handled = none) (hok : OK s.heap) (hn : n ≤ sizeLine)
    (each : ∀ acc', ItemsOf P acc' n → EachIs R acc'.toList bs ∧ EachIs (fun v b => ∃ as, Reads s.heap v (enc b) as) acc'.toList bs) (hal : AllAlike (bs.map enc)) (hk : PySem.W.Sortable (bs.map enc)) (hL : bs.length ≤ sizeLine)
    (hu : ∀ b, b ∈ bs → A.units + 2 + (enc b).depth < cLine)
    (h : ∀ h' tk L out e, (∀ b o, s.heap.get? b = some o → h'.get? b = some o) → s.heap.objs.size ≤ L → h'.get? L = some (seqObj "list" (List.toArray out) e) → out.length = bs.length → EachIs R out (bs.mergeSort (dataLe false enc)) → Q (.ref L) { s with heap := h', toks := tk }) :
    wpAny (model prog w) A (call (.builtin "sorted") [.ref r]) Q E s := by
  refine call_function_entry_kw kind_sorted plain_sorted entry_sorted (args_sorted1 _) ?_
  unfold Builtin.«sorted»
  refine wpAny_bind (m := checkCount "sorted" 1 1 _) (wpAny_pure (wpAny_bind (collect_kdl K hh hok hn fun h1 tk acc hk1 hsz hacc => ?_)))
  obtain ⟨e1, er⟩ := each acc hacc
  have hlen : acc.toList.length = bs.length := e1.length
  refine wpAny_bind (wpAny_newList ?_ (by rw [hlen]; exact hL))
  have hat : (h1.push (seqObj "list" acc.toList.toArray 0)).get? h1.objs.size = some (seqObj "list" acc.toList.toArray 0) := Heap.get?_push_size _ rfl
  have old : ∀ b o, s.heap.get? b = some o → (sortingHeap (h1.push (seqObj "list" acc.toList.toArray 0)) h1.objs.size acc.toList).get? b = some o := fun b o e => sortingHeap_old (Nat.ne_of_lt (Heap.lt_size (hk1 b o e))) (Heap.get?_push_of_some _ (hk1 b o e))
  have er' : EachIs (fun v b => ∃ as, Reads (sortingHeap (h1.push (seqObj "list" acc.toList.toArray 0)) h1.objs.size acc.toList) v (enc b) as) acc.toList bs := er.mono fun _ _ ⟨as, q⟩ => ⟨as, PyProof.Rows.Reads.keeps (fun b o e => old b o e) q⟩
  refine wpAny_bind (wpAny_holding (wpAny_call_entry_kw slot_list_sort ⟨_, hat, rfl⟩ entry_list_sort ?body (args_list_sort _)))
  case body =>
    refine (show wpAny (model prog w) A.in1.in1 (Builtin.«list.sort» ⟨[.ref h1.objs.size], []⟩) _ _ _ from ?_)
    refine list_sort_vals (s := { s with heap := h1.push (seqObj "list" acc.toList.toArray 0), toks := tk }) hat (SortsAt.data (s := { s with heap := sortingHeap (h1.push (seqObj "list" acc.toList.toArray 0)) h1.objs.size acc.toList, toks := tk }) (each_map (R := fun v d => ∃ as, Reads (sortingHeap (h1.push (seqObj "list" acc.toList.toArray 0)) h1.objs.size acc.toList) v d as) enc er') hal hk (bound_map hu)) (by rw [hlen]; exact hL) ⟨_, rfl, wpAny_pure ?_⟩
    obtain ⟨ep, he'⟩ := sortedHeap_at (a := h1.objs.size) (vs := acc.toList) (out := (sortVals (dataKind (sortingHeap (h1.push (seqObj "list" acc.toList.toArray 0)) h1.objs.size acc.toList) (bs.map enc)) false acc.toList acc.toList).toArray) hat
    refine ⟨_, rfl, h _ _ _ _ ep (fun b o e => ?_) ?_ he' (by rw [sortVals_length false rfl]; exact hlen) (sortVals_data false e1 er' hal)⟩
    · have lt := Heap.lt_size (hk1 b o e)
      exact (sortedHeap_old (Nat.ne_of_lt lt) (by rw [size_push']; exact Nat.lt_succ_of_lt lt)).trans (Heap.get?_push_of_some _ (hk1 b o e))
    · exact Nat.le_of_lt hsz
end Srt

namespace Q
open PySem L2 TL
theorem dpAll_key {K : PySem.W.Frag} {H : Hp} : ∀ ks : List Key, DpAll K H (ks.map kV) (ks.map kD)
  | [] => .nil
  | .inl i :: r => .cons (.int i) (dpAll_key r)
  | .inr x :: r => .cons (.str x) (dpAll_key r)
def KeyAt (H : Hp) (b : Addr) (k : List Key) : Prop := H b = some (.tup (k.map kV))
def KeysAt (H : Hp) : List Addr → List (List Key) → Prop
  | [], ks => ks = []
  | b :: bs, ks => ∃ k r, ks = k :: r ∧ KeyAt H b k ∧ KeysAt H bs r
theorem keysAt_each {H : Hp} : ∀ {us : List Value} {ks : List (List Key)}, PySem.W.EachIs (fun u k => ∃ b, u = Value.ref b ∧ KeyAt H b k) us ks → ∃ bs : List Addr, us = bs.map Value.ref ∧ KeysAt H bs ks
  | _, _, .nil => ⟨[], rfl, rfl⟩
  | _, _, .cons ⟨b, e, h⟩ t => by
    obtain ⟨bs, e2, h2⟩ := keysAt_each t
    exact ⟨b :: bs, by rw [e, e2]; rfl, _, _, rfl, h, h2⟩
theorem KeysAt.length {H : Hp} : ∀ {bs : List Addr} {ks : List (List Key)}, KeysAt H bs ks → bs.length = ks.length
  | [], _, h => by cases h; rfl
  | b :: bs, _, h => by
    obtain ⟨k, r, rfl, _, h⟩ := h
    rw [List.length_cons, List.length_cons, KeysAt.length h]
theorem rps_key {H : Hp} : ∀ {k : List Key}, (∀ x ∈ k, okK x) → Rps H (k.map kD) (k.map kV)
  | [], _ => rfl
  | x :: k, h => by
    refine ⟨kV x, k.map kV, rfl, ?_, rps_key fun y hy => h y (List.mem_cons_of_mem _ hy)⟩
    have := h x List.mem_cons_self
    cases x with
    | inl i => exact (rfl : V.int i = V.int i)
    | inr y => exact ⟨rfl, this⟩
section
variable {Z : Zone} {σ : L2.St} {ρ : En} {ω : Sto} {H : Hp}
theorem tups_in : ∀ {bs : List Addr} {ks : List (List Key)} {HF : Hp}, SK Z HF H σ ρ ω → KeysAt H bs ks → (∀ k ∈ ks, k.length ≤ sizeLine ∧ ∀ x ∈ k, okK x) → ∃ HF', Same HF HF' ∧ SK Z HF' H σ ρ ω ∧ Rps HF' (ks.map keyD) (bs.map V.ref)
  | [], _, HF, S, h, _ => by cases h; exact ⟨HF, Same.refl _, S, rfl⟩
  | b :: bs, _, HF, S, h, ok => by
    obtain ⟨k, r, rfl, hb, h⟩ := h
    obtain ⟨S1, e1⟩ := S.tupF hb
    obtain ⟨HF', e2, S2, r2⟩ := tups_in S1 h fun k hk => ok k (List.mem_cons_of_mem _ hk)
    obtain ⟨hl, hk⟩ := ok k List.mem_cons_self
    exact ⟨HF', e1.trans e2, S2, .ref b, bs.map V.ref, rfl, ⟨b, k.map kV, rfl, e2 _ _ upd_same, by rw [List.length_map]; exact hl, rps_key hk⟩, r2⟩
end
def rSrtK (ks : List (List Key)) : List V → Hp → VK → Prop := fun vs H Q => ∃ l kv, vs = [.ref l] ∧ Rd H l (.dT kv) ∧ kv.map (·.1) = ks ∧ ∀ p bs, H p = none → bs.length ≤ sizeLine → KeysAt H bs (sortBy keyD ks) → Q (.ref p) (upd H p (.lst (bs.map V.ref)))
theorem cr_srtK {X : Cx} {ks : List (List Key)} (hc : X.calm = true) (hal : PySem.W.AllAlike (ks.map keyD)) (hk : PySem.W.Sortable (ks.map keyD)) (hd : ∀ x ∈ ks, (keyD x).depth ≤ 60) (hu : X.A.units + 64 < cLine) : CallR X (.builtin "sorted") (rSrtK ks) := by
  intro pins s σ H vs us Q I r h
  obtain ⟨l, kv, rfl, hl, rfl, q⟩ := h
  obtain ⟨u, rfl, ru⟩ := vals1 r
  cases ru
  obtain ⟨z, hs, xs, pr, o, es, ep, ho, hx, hdt, he, hn⟩ := (show ObjOk X.prog X.w H s.heap l (.dT kv) from hl.ok I.hok)
  have l1 : es.size = xs.length := size_of_entries he
  have l2 : kv.length = xs.length := Paired.length pr
  have keysIn : KeysAt H (xs.map fun x => x.2.1) (kv.map (·.1)) := by
    clear l2 l1 he q hd hk hal z hl hn
    induction pr with
    | nil => rfl
    | @cons a b as bs h t ih => exact ⟨_, _, rfl, h.2.1, ih⟩
  refine Srt.sorted_kdl (enc := keyD) (R := fun u k => ∃ b, u = Value.ref b ∧ KeyAt H b k) (kdl_raw hs hx hdt) (I.ok.hd hc) ho (by omega) (fun acc' it => ?_) hal hk (by rw [List.length_map]; exact z) (fun x hx => by have := hd x hx; omega) fun h' tk L out e hkeep hL hat ho' eo => ?_
  · have ea : acc'.toList = (xs.map fun x => x.2.1).map Value.ref := by
      have hl : acc'.toList.length = xs.length := by rw [Array.length_toList, it.1]; exact l1
      rw [List.map_map]
      apply List.ext_getElem?
      intro j
      rw [List.getElem?_map]
      cases hj : acc'.toList[j]? with
      | none =>
        have h1 := List.getElem?_eq_none_iff.mp hj
        rw [List.getElem?_eq_none (by omega)]
        rfl
      | some v =>
        obtain ⟨en, hen, hv⟩ := it.2 j v (by rw [← Array.getElem?_toList]; exact hj)
        have qe := entry_at he j
        rw [hen] at qe
        cases hb : xs[j]? with
        | none =>
          rw [hb] at qe
          exact nomatch (show some en = none from qe)
        | some b =>
          rw [hb] at qe
          have e2 := Option.some.inj qe
          rw [hv, e2]
          rfl
    rw [ea]
    clear ea it l1 l2 he q hd hk hal
    have both : ∀ {bs : List Addr} {ks : List (List Key)}, KeysAt H bs ks → PySem.W.EachIs (fun u k => ∃ b, u = Value.ref b ∧ KeyAt H b k) (bs.map Value.ref) ks ∧ PySem.W.EachIs (fun u k => ∃ as, Reads s.heap u (keyD k) as) (bs.map Value.ref) ks := by
      intro bs
      induction bs with
      | nil => intro ks h; cases h; exact ⟨.nil, .nil⟩
      | cons b bs ih =>
        intro ks h
        obtain ⟨k, r, rfl, hb, h⟩ := h
        obtain ⟨i1, i2⟩ := ih h
        exact ⟨.cons ⟨b, rfl, hb⟩ i1, .cons (Dp.reads I _ (.ref b) _ (.tup (SqT.of hb) (dpAll_key (K := X.K) k)) rfl) i2⟩
    exact both keysIn
  · obtain ⟨bs, rfl, hb⟩ := keysAt_each eo
    refine ⟨.ref L, upd H L (.lst (bs.map V.ref)), I.laid (t' := tk) hkeep hL ⟨?_, bs.map Value.ref, e, vals_refs bs, hat⟩, rfl, q L bs (I.hok.fresh hL) ?_ hb⟩
    · rw [List.length_map]
      rw [List.length_map, List.length_map] at ho'
      rw [ho']; exact z
    · rw [List.length_map, List.length_map] at ho'
      rw [ho']; exact z
section
variable {X : Cx} {ρ : En} {ω ω1 : Sto} {d1 : D} {a : Expr} {pos p : Pos} {k : Nat}
/-- sorted(d), d an owned dict with tuple keys -/
theorem dn_sortedK (j : Nat) {l : Addr} {ks : List (List Key)} {ys : List PyData} (hr : Room k X.A) (hc : X.calm = true) (h : sortP (ks.map keyD) = some ys) (hm : X.mg "sorted" = none) (A : DE X a ρ ω (.adr l) ω1) (hj : ω1[j]? = some (l, .dT (tK ks)) := by rfl) (hg : Gl X "sorted" := by rfl) (hs : Sg X a [] pos := by exact ⟨rfl, rfl⟩) :
    DN X (.Call (.Name "sorted" p) [a] [] pos) ρ ω (.lst (ys.map cP)) ω1 := by
  obtain ⟨rfl, h1, h2, h3⟩ := sortP_ok h
  rw [List.map_map] at h1 h2
  have e : (sortBy cP (ks.map keyD)) = (sortBy keyD ks).map keyD := by
    unfold sortBy
    exact (List.map_mergeSort (r := PySem.W.dataLe false keyD) (s := PySem.W.dataLe false cP) (f := keyD) (l := ks) (fun _ _ _ _ => rfl)).symm
  refine dn_callB (cr_srtK (ks := ks) hc h1 h2 (fun x hx => h3 _ (List.mem_map_of_mem hx)) hr.units) hs hg hm (by decide +kernel) (da_one A hs.he) fun Z HF H σ vs Q S r q => ?_
  obtain ⟨x, _, rfl, r1, rfl⟩ := r
  cases (show x = .ref l from r1)
  obtain ⟨fp, rfl, kv, g1, g2, g3⟩ := S.cell hj
  refine ⟨l, kv, rfl, .inl g1, ?_, fun p bs hp hlen0 hb => ?_⟩
  · rw [rkv_keys g2, tK, List.map_map]; exact List.map_id' ks
  · have okk : ∀ k ∈ sortBy keyD ks, k.length ≤ sizeLine ∧ ∀ x ∈ k, okK x := fun k hk => by
      have hk' : k ∈ ks := (List.mergeSort_perm ks _).mem_iff.mp hk
      exact g3 (k, cB true) (List.mem_map_of_mem (f := fun k => (k, cB true)) hk')
    obtain ⟨HF', e', S', r'⟩ := tups_in S hb okk
    have hlen : (bs.map V.ref).length ≤ sizeLine := by rw [List.length_map]; exact hlen0
    rw [map_cP, e] at q
    exact q p HF' _ e' (S'.newC hp (cell_lst hlen r'))
end
/-! enumerate(xs, m) -/
def enm {α : Type} (m : Int) : List α → List (Int × α)
  | [] => []
  | x :: xs => (m, x) :: enm (m + 1) xs
theorem enm_at {α : Type} : ∀ (xs : List α) (m : Int) (i : Nat), (enm m xs)[i]? = (xs[i]?).map fun x => (m + (i : Int), x)
  | [], _, _ => by simp [enm]
  | x :: xs, m, 0 => by simp [enm]
  | x :: xs, m, i + 1 => by
    show (enm (m + 1) xs)[i]? = _
    rw [enm_at xs (m + 1) i]
    show (xs[i]?).map _ = (xs[i]?).map _
    congr 1
    funext y
    have : m + 1 + (i : Int) = m + ((i + 1 : Nat) : Int) := by omega
    rw [this]
theorem enm_len {α : Type} : ∀ (xs : List α) (m : Int), (enm m xs).length = xs.length
  | [], _ => rfl
  | x :: xs, m => by show (enm (m + 1) xs).length + 1 = _; rw [enm_len xs]; rfl
section
variable {X : Cx} {ρ : En} {ω ω1 ω2 : Sto} {e e2 : Expr} {pos p tpos : Pos} {elts : List Expr} {kk : Nat} {α : Type} {c : α → PyData} {xs : List α}
theorem di_enm {m : Int} (hm : X.mg "enumerate" = none) (A : DE X e ρ ω (.v (cL c xs)) ω1) (B : DE X e2 ρ ω1 (.v (cI m)) ω2) (hfit : Builtin.SmallTypes.fitsIndex m = true := by rfl) (hg : Gl X "enumerate" := by rfl)
    (hs : starEach [e, e2] X.env = (false, eval e X.env) :: starEach [e2] X.env := by rfl) (hs2 : starEach [e2] X.env = (false, eval e2 X.env) :: starEach [] X.env := by rfl) (hpl : (backTo pos (starEach [e2] X.env)).any (·.1) = false := by rfl) :
    DI X (.Tuple elts kk tpos) (.Call (.Name "enumerate" p) [e, e2] [] pos) ρ ω ((enm m xs).map fun y => .v (c2 cI c y)) ω2 :=
  pi_mono (pi_enm hg hm (da_cons A (da_one B hs2) hs) hs hpl) fun σ H R ⟨Z, HF, S, q⟩ => ⟨Z, HF, S, fun v HF1 H1 e1 S1 r1 => by
    obtain ⟨x, _, rfl, r1, y, _, rfl, r2, rfl⟩ := r1
    obtain ⟨l, vs, rfl, h1, h2, h3⟩ := r1
    cases (show y = .int m from r2)
    refine ⟨l, vs, m, rfl, hfit, SqL.of (S1.fh _ _ h1), q _ HF1 H1 e1 S1 ⟨by rw [List.length_map, enm_len]; rw [h3.length, List.length_map] at h2; exact h2, fun HF2 H2 k1 k2 i => ⟨fun hi => ?_, fun d hd => ?_⟩⟩⟩
    · refine ⟨vs, SqL.of (k2 _ _ (k1 _ _ h1)), ?_⟩
      rw [List.length_map, enm_len] at hi
      rw [h3.length, List.length_map, hi]; exact Nat.le_refl _
    · have hL : SqL X.K H2 l vs := SqL.of (k2 _ _ (k1 _ _ h1))
      rw [List.getElem?_map, enm_at] at hd
      cases hz : xs[i]? with
      | none => rw [hz] at hd; cases hd
      | some z =>
        rw [hz] at hd
        cases (Option.some.inj hd)
        obtain ⟨x, x1, x2⟩ := h3.get (i := i) (d := c z) (by rw [List.getElem?_map, hz]; rfl)
        refine ⟨⟨vs, x, hL, x1⟩, fun y' H3 hy => .inr ?_⟩
        obtain ⟨T, u, rfl, hT, rfl, q1⟩ := hy
        have e1 := q1 vs hL
        rw [x1] at e1
        cases e1
        have hTF : HF2 T = none := by
          cases hc : HF2 T with
          | none => rfl
          | some o => have := k2 _ _ hc; rw [hT] at this; cases this
        have sm : Same HF2 (upd HF2 T (.tup [.int (m + (i : Nat)), x])) := same_new hTF
        exact ⟨T, .tup [.int (m + (i : Nat)), x], hT, rfl, T, [.int (m + (i : Nat)), x], rfl, upd_same, by show 2 ≤ sizeLine; rw [sizeLine_eq]; decide, .int (m + (i : Nat)), [x], rfl, rfl, x, [], rfl, (x2.mono k1).mono sm, rfl⟩⟩
end
end Q
end

section
set_option Elab.async false
set_option linter.all false
set_option maxRecDepth 100000
set_option maxHeartbeats 4000000
/-! LAYER 14: a list of three new lists. -/
namespace Q
open PySem L2 TL
section
variable {X : Cx} {ρ ρ' : En} {ω ω' ω1 ω2 ω3 : Sto} {d d1 d2 : D} {e a b o ix : Expr} {pos p1 : Pos} {P : OP} {rest : List Stmt} {k : Nat}
def tL3 : TE := fun σ H Q => ∀ a0, H a0 = none → ∀ a1, upd H a0 (.lst []) a1 = none → ∀ a2, upd (upd H a0 (.lst [])) a1 (.lst []) a2 = none → ∀ p, upd (upd (upd H a0 (.lst [])) a1 (.lst [])) a2 (.lst []) p = none →
  Q (.ref p) (upd (upd (upd (upd H a0 (.lst [])) a1 (.lst [])) a2 (.lst [])) p (.lst [.ref a0, .ref a1, .ref a2]))
theorem pe_L3 {r0 r1 r2 : Pos} (hs1 : starEach [.List [] r0, .List [] r1, .List [] r2] X.env = (false, eval (.List [] r0) X.env) :: starEach [.List [] r1, .List [] r2] X.env) (hs2 : starEach [.List [] r1, .List [] r2] X.env = (false, eval (.List [] r1) X.env) :: starEach [.List [] r2] X.env)
    (hs3 : starEach [.List [] r2] X.env = (false, eval (.List [] r2) X.env) :: starEach [] X.env) : PE X (.List [.List [] r0, .List [] r1, .List [] r2] pos) tL3 :=
  pe_mono (pe_lst (pa_cons (pe_lst pa_nil) (pa_cons (pe_lst pa_nil) (pa_cons (pe_lst pa_nil) pa_nil hs3) hs2) hs1)) fun σ H Q q =>
    ⟨Nat.zero_le _, fun a0 h0 => ⟨Nat.zero_le _, fun a1 h1 => ⟨Nat.zero_le _, fun a2 h2 => ⟨by show 3 ≤ sizeLine; rw [sizeLine_eq]; decide, fun p hp => q a0 h0 a1 h1 a2 h2 p hp⟩⟩⟩⟩
theorem cell_l0 {HF H : Hp} {p : Addr} : CellR HF (upd H p (.lst [])) p [p] (.lst []) := ⟨rfl, [], upd_same, Nat.zero_le _, rfl⟩
/-- x, y = e, [[], [], []] -/
theorem dss_parA3 (i j : Nat) {x y : Str} {px py pt pt2 r0 r1 r2 lp : Pos} {kt k2 : Nat} (A : DE X a ρ ω d ω1) (R : ∀ a0 a1 a2, DSs X rest ((ρ.set i (some d)).set j (some (.lA [a0, a1, a2]))) (ω1 ++ [(a0, .lst []), (a1, .lst []), (a2, .lst [])]) P)
    (hc : X.calm = true := by rfl) (hN : X.N.Nodup := by assumption) (hi : X.N[i]? = some x := by rfl) (hj : X.N[j]? = some y := by rfl) (hij : i ≠ j := by decide)
    (hx : X.env.scope.names.lookup x = some .local := by rfl) (hy : X.env.scope.names.lookup y = some .local := by rfl)
    (hw : swappedStores [.Tuple [.Name x px, .Name y py] kt pt] (.Tuple [a, .List [.List [] r0, .List [] r1, .List [] r2] lp] k2 pt2) X.env = pure (some [x, y]) := by rfl)
    (hs : swapsWithSole [.Tuple [.Name x px, .Name y py] kt pt] (.Tuple [a, .List [.List [] r0, .List [] r1, .List [] r2] lp] k2 pt2) pos.line X.env = pure false := by rfl)
    (hs1 : starEach [a, .List [.List [] r0, .List [] r1, .List [] r2] lp] X.env = (false, eval a X.env) :: starEach [.List [.List [] r0, .List [] r1, .List [] r2] lp] X.env := by rfl) (hs2 : starEach [.List [.List [] r0, .List [] r1, .List [] r2] lp] X.env = (false, eval (.List [.List [] r0, .List [] r1, .List [] r2] lp) X.env) :: starEach [] X.env := by rfl)
    (h1 : starEach [.List [] r0, .List [] r1, .List [] r2] X.env = (false, eval (.List [] r0) X.env) :: starEach [.List [] r1, .List [] r2] X.env := by rfl) (h2 : starEach [.List [] r1, .List [] r2] X.env = (false, eval (.List [] r1) X.env) :: starEach [.List [] r2] X.env := by rfl)
    (h3 : starEach [.List [] r2] X.env = (false, eval (.List [] r2) X.env) :: starEach [] X.env := by rfl) :
    DSs X (.Assign [.Tuple [.Name x px, .Name y py] kt pt] (.Tuple [a, .List [.List [] r0, .List [] r1, .List [] r2] lp] k2 pt2) pos :: rest) ρ ω P := by
  refine pss_mono (pss_cons (ps_par hc hN hi hj hij hx hy (pa_cons A (pa_cons (pe_L3 h1 h2 h3) pa_nil hs2) hs1) hw hs) (pss_any fun y : Addr × Addr × Addr => R y.1 y.2.1 y.2.2)) fun E σ H ⟨Z, HF, Sk, q⟩ => ⟨Z, HF, Sk, fun v HF1 H1 e1 S1 r1 => fun a0 ha0 a1 ha1 a2 ha2 p hp => ?_⟩
  have S2 := S1.newC ha0 cell_l0
  have S3 := S2.newC ha1 cell_l0
  have S4 := S3.newC ha2 cell_l0
  obtain ⟨S5, f5⟩ := S4.newF (.lst [.ref a0, .ref a1, .ref a2]) hp
  rw [List.append_assoc, List.append_assoc] at S5
  refine ⟨_, _, rfl, (a0, a1, a2), Z, _, (S5.set i (r1.mono f5)).set j (d := .lA [a0, a1, a2]) ⟨p, rfl, upd_same, by show 3 ≤ sizeLine; rw [sizeLine_eq]; decide⟩, fun o po => (q o po).mono (e1.trans f5)⟩
theorem atI_refs {bs : List Addr} {i : Int} {l : Addr} (h : atI bs i = some l) : atI (bs.map V.ref) i = some (.ref l) := by
  unfold atI at *
  rw [List.length_map]
  cases hk : ixN bs.length i with
  | none => rw [hk] at h; cases h
  | some k =>
    rw [hk] at h
    show (bs.map V.ref)[k]? = some (.ref l)
    rw [List.getElem?_map, show bs[k]? = some l from h]
    rfl
/-- found[i] -/
theorem de_ixA {i : Int} {bs : List Addr} {l : Addr} (A : DE X a ρ ω (.lA bs) ω1) (B : DE X b ρ ω1 (.v (cI i)) ω2) (h : atI bs i = some l) (hs : PlainIx b := by exact fun _ _ => rfl) : DE X (.Subscript a b pos) ρ ω (.adr l) ω2 :=
  pe_mono (pe_ix ix_list A B hs) (te2 fun Z HF H σ x y Q S r1 r2 q => by
    obtain ⟨p, rfl, hp, hz⟩ := r1
    exact ⟨p, bs.map V.ref, i, .ref l, rfl, r2, SqL.of (S.fh _ _ hp), atI_refs h, q (.ref l) HF H (Same.refl _) S rfl⟩)
/-- nobody changes the three lists any more -/
theorem dss_frzA3 (i : Nat) (js : List Nat) {a0 a1 a2 : Addr} {r0 r1 r2 : List PyData} (hi : ρ[i]? = some (some (.lA [a0, a1, a2]))) (hj : js.map (fun j => ω[j]?) = (ω' ++ [(a0, Cell.lst r0), (a1, Cell.lst r1), (a2, Cell.lst r2)]).map some) (hn : js.Nodup)
    (R : DSs X rest (ρ.set i (some (.v (.list [.list r0, .list r1, .list r2])))) ω' P) : DSs X rest ρ ω P :=
  pss_mono R fun E σ H ⟨Z, HF, S, q⟩ => by
    have S0 := S.pick hj hn
    rw [show ω' ++ [(a0, Cell.lst r0), (a1, Cell.lst r1), (a2, Cell.lst r2)] = ((ω' ++ [(a0, Cell.lst r0)]) ++ [(a1, Cell.lst r1)]) ++ [(a2, Cell.lst r2)] by simp] at S0
    obtain ⟨HF1, e1, S1, q1⟩ := S0.freezeL
    obtain ⟨HF2, e2, S2, q2⟩ := S1.freezeL
    obtain ⟨HF3, e3, S3, q3⟩ := S2.freezeL
    obtain ⟨v, hv, rv⟩ := S.sl i _ hi
    obtain ⟨p, rfl, hp, hz⟩ := rv
    have e : Same HF HF3 := (e1.trans e2).trans e3
    have S4 := S3.set i (d := .v (.list [.list r0, .list r1, .list r2])) (v := .ref p) ⟨p, [.ref a0, .ref a1, .ref a2], rfl, e _ _ hp, hz, .ref a0, _, rfl, q3, .ref a1, _, rfl, q2.mono e3, .ref a2, _, rfl, q1.mono (e2.trans e3), rfl⟩
    have hσ : σ.set i (some (.ref p)) = σ := by
      obtain ⟨hl, he⟩ := List.getElem?_eq_some_iff.mp hv
      rw [← he]
      exact List.set_getElem_self hl
    rw [hσ] at S4
    exact ⟨Z, HF3, S4, fun o po => (q o po).mono e⟩
end
/-! xs.index(x) -/
theorem idxOf_le {α : Type} [DecidableEq α] : ∀ {xs : List α} {m : Nat} {x : α}, xs[m]? = some x → xs.idxOf x ≤ m
  | [], _, _, h => by simp at h
  | y :: ys, 0, x, h => by
    have e : y = x := by simpa using h
    subst e
    simp
  | y :: ys, m + 1, x, h => by
    have ih := idxOf_le (xs := ys) (m := m) (x := x) (by simpa using h)
    rw [List.idxOf_cons]
    by_cases e : (y == x) = true
    · rw [e]; exact Nat.zero_le _
    · rw [Bool.not_eq_true _ |>.mp e]; exact Nat.succ_le_succ ih
def indexB {α : Type} [DecidableEq α] (xs : List α) (x : α) : Option Int := if x ∈ xs then some (xs.idxOf x : Nat) else none
abbrev indexI (xs : List Int) (x : Int) : Option Int := indexB xs x
abbrev indexW (xs : List Wd) (x : Wd) : Option Int := indexB xs x
section
variable {X : Cx} {ρ : En} {ω ω1 ω2 : Sto} {d1 : D} {a b : Expr} {pos apos : Pos} {α : Type} [DecidableEq α] {c : α → PyData} {xs : List α} {x : α} {i : Int}
theorem de_indexB (g : α → V) (hg : ∀ (H : Hp) x v, Rp H (c x) v → v = g x) (hf : ∀ x, flatV (g x) = true) (he : ∀ x y, eqV (g x) (g y) = decide (x = y)) (A : DE X a ρ ω d1 ω1) (B : DE X b ρ ω1 (.v (c x)) ω2) (L : IsL ω1 d1 (xs.map c)) (L2' : IsL ω2 d1 (xs.map c)) (h : indexB xs x = some i)
    (hbase : attributeBase a "index" X.env (eval a X.env) = eval a X.env := by rfl)
    (hfew : ((backTo pos (starEach [b] X.env)).all (fun x => !x.1) && (backToKw pos (keywordEach [] X.env)).all (fun x => x.1.isSome) && decide ([b].length + ([] : List Keyword).length + (if ([] : List Keyword).isEmpty then 0 else 1) < 30)) = true := by rfl)
    (hline : (apos.endLine == pos.line) = true := by rfl) (hs : starEach [b] X.env = (false, eval b X.env) :: starEach [] X.env := by rfl) (hplain : (backTo pos (starEach [] X.env)).any (·.1) = false := by rfl) :
    DE X (.Call (.Attribute a "index" apos) [b] [] pos) ρ ω (.v (cI i)) ω2 :=
  pe_mono (pe_bm PySem.F.plainAttrs_list PySem.F.slot_list_index PySem.F.type_list_index mt_index A (da_one B hs) hbase hfew hline hs hplain) fun σ H Q ⟨Z, HF, S, q⟩ => ⟨Z, HF, S, fun v HF1 H1 e1 S1 r1 => by
    obtain ⟨l, vs, rfl, g1, g2, g3⟩ := L.at S1 r1
    refine ⟨.inl ⟨rfl, vs, SqL.of g1⟩, Z, HF1, S1, fun ws HF2 H2 e2 S2 r2 => ?_⟩
    obtain ⟨y, _, rfl, r2, rfl⟩ := r2
    obtain ⟨l', us, el, k1, k2, k3⟩ := L2'.at S2 (r1.mono e2)
    cases el
    have eus : us = xs.map g := inV_map (fun H x v => hg H x v) k3
    have ey := hg _ _ _ (RD.rp r2)
    subst eus ey
    unfold indexB at h
    split at h
    · rename_i hx
      cases h
      have hlt := List.idxOf_lt_length_iff.mpr hx
      refine ⟨l, _, _, xs.idxOf x, g x, rfl, rfl, SqL.of k1, hf x, by rw [List.all_eq_true]; intro z hz; obtain ⟨y, _, rfl⟩ := List.mem_map.mp hz; exact hf y, ?_, by rw [he]; simp, fun m z hm hz => ?_, q _ HF2 H2 (e1.trans e2) S2 rfl⟩
      · rw [List.getElem?_map, List.getElem?_eq_getElem hlt, List.getElem_idxOf hlt]; rfl
      · rw [List.getElem?_map] at hz
        have hml : m < xs.length := Nat.lt_trans hm hlt
        rw [List.getElem?_eq_getElem hml] at hz
        cases hz
        rw [he]
        have : ¬ xs[m] = x := fun e => by
          have := idxOf_le (xs := xs) (m := m) (x := x) (by rw [List.getElem?_eq_getElem hml, e])
          omega
        exact decide_eq_false this
    · cases h⟩
end
theorem eqV_sV (x y : Wd) : eqV (sV x) (sV y) = decide (x = y) := by
  show (S x == S y) = _
  by_cases h : x = y
  · subst h; simp
  · rw [decide_eq_false h]; exact beq_false_of_ne fun e => h (S_inj e)
theorem eqV_int (x y : Int) : eqV (.int x) (.int y) = decide (x = y) := by
  show (x == y) = _
  by_cases h : x = y
  · subst h; simp
  · rw [decide_eq_false h]; exact beq_false_of_ne h
section
variable {X : Cx} {ρ : En} {ω ω1 ω2 : Sto} {d1 : D} {a b : Expr} {pos apos : Pos} {i : Int}
theorem de_indexW {xs : List Wd} {x : Wd} (A : DE X a ρ ω d1 ω1) (B : DE X b ρ ω1 (.v (cS x)) ω2) (L : IsL ω1 d1 (xs.map cS)) (L2' : IsL ω2 d1 (xs.map cS)) (h : indexW xs x = some i)
    (hbase : attributeBase a "index" X.env (eval a X.env) = eval a X.env := by rfl)
    (hfew : ((backTo pos (starEach [b] X.env)).all (fun x => !x.1) && (backToKw pos (keywordEach [] X.env)).all (fun x => x.1.isSome) && decide ([b].length + ([] : List Keyword).length + (if ([] : List Keyword).isEmpty then 0 else 1) < 30)) = true := by rfl)
    (hline : (apos.endLine == pos.line) = true := by rfl) (hs : starEach [b] X.env = (false, eval b X.env) :: starEach [] X.env := by rfl) (hplain : (backTo pos (starEach [] X.env)).any (·.1) = false := by rfl) :
    DE X (.Call (.Attribute a "index" apos) [b] [] pos) ρ ω (.v (cI i)) ω2 :=
  de_indexB (c := cS) sV (fun _ _ _ h => h.1) (fun _ => rfl) eqV_sV A B L L2' h hbase hfew hline hs hplain
theorem de_indexI {xs : List Int} {x : Int} (A : DE X a ρ ω d1 ω1) (B : DE X b ρ ω1 (.v (cI x)) ω2) (L : IsL ω1 d1 (xs.map cI)) (L2' : IsL ω2 d1 (xs.map cI)) (h : indexI xs x = some i)
    (hbase : attributeBase a "index" X.env (eval a X.env) = eval a X.env := by rfl)
    (hfew : ((backTo pos (starEach [b] X.env)).all (fun x => !x.1) && (backToKw pos (keywordEach [] X.env)).all (fun x => x.1.isSome) && decide ([b].length + ([] : List Keyword).length + (if ([] : List Keyword).isEmpty then 0 else 1) < 30)) = true := by rfl)
    (hline : (apos.endLine == pos.line) = true := by rfl) (hs : starEach [b] X.env = (false, eval b X.env) :: starEach [] X.env := by rfl) (hplain : (backTo pos (starEach [] X.env)).any (·.1) = false := by rfl) :
    DE X (.Call (.Attribute a "index" apos) [b] [] pos) ρ ω (.v (cI i)) ω2 :=
  de_indexB (c := cI) V.int (fun _ _ _ h => h) (fun _ => rfl) eqV_int A B L L2' h hbase hfew hline hs hplain
end
end Q
end

section
set_option Elab.async false
set_option linter.all false
set_option maxRecDepth 100000
set_option maxHeartbeats 4000000
/-! LAYER 15: repr(x), where the guards are known; defs called where the guards are known; the law's own def and the end. -/
namespace Q
open PySem L2 TL
open PySem.Spec PyProof.Rows
/-- repr(x) of data, where all limits are kept -/
def reprW (d : PyData) : Option Wd := if (d.showable && decide (d.depth ≤ 64) && decide (d.shown.length ≤ sizeLine) && PyData.strOk d.shown) = true then some d.shown.cps.toList else none
def rRepr (d : PyData) : List V → Hp → VK → Prop := fun xs H Q => ∃ x HF, xs = [x] ∧ Same HF H ∧ Rp HF d x ∧ Q (.str d.shown) H
theorem cr_repr {X : Cx} {d : PyData} (hgd : X.A.guards = some []) (hs : d.showable = true) (hz : d.shown.length ≤ sizeLine) (hd : d.depth ≤ 64) (hu : X.A.units + 80 < cLine) : CallR X (.builtin "repr") (rRepr d) := by
  intro pins s σ H xs us Q I r h
  obtain ⟨x, HF, rfl, hf, rp, q⟩ := h
  obtain ⟨u, rfl, ru⟩ := vals1 r
  have big : ∀ a : Addr, u = .ref a → wpAny (model X.prog X.w) X.A (call (.builtin "repr") [u]) (EP X pins σ Q) X.xe s := fun a e => by
    subst e
    obtain ⟨as, rd⟩ := Dp.reads I d x _ ((rp.mono hf).dp (K := X.K)) ru
    have nd : d.hasDict = false := PyData.hasDict_of_canLay d rp.lay
    refine repr_of_reads' rd hs (fun e => by rw [nd] at e; cases e) hgd (by omega) (fun _ _ e => e) (fun h' t tk hk => ?_) hz
    exact ⟨.str d.shown, H, I.kept (t' := tk) hk, ⟨_, rfl⟩, q⟩
  cases d with
  | none =>
    cases (show x = .non from rp)
    cases (show u = Value.none from ru)
    exact PySem.P.repr_of_none ⟨.str _, H, I.tok _, ⟨_, rfl⟩, q⟩
  | bool b =>
    cases (show x = .bl b from rp)
    cases (show u = Value.bool b from ru)
    exact PySem.P.repr_of_bool ⟨.str _, H, I.tok _, ⟨_, rfl⟩, q⟩
  | int i =>
    cases (show x = .int i from rp)
    obtain ⟨t, rfl⟩ := (show ∃ t, u = Value.int i t from ru)
    exact PySem.P.repr_of_int (of_decide_eq_true hs) ⟨.str _, H, I.tok _, ⟨_, rfl⟩, q⟩
  | str y =>
    obtain ⟨rfl, _⟩ := rp
    obtain ⟨t, rfl⟩ := (show ∃ t, u = Value.str y t from ru)
    exact PySem.P.repr_of_str ⟨.str _, H, I.tok _, ⟨_, rfl⟩, q⟩ hz
  | list ps =>
    obtain ⟨a, vs, e, _⟩ := id rp
    subst e
    exact big a ru
  | tuple ps =>
    obtain ⟨a, vs, e, _⟩ := id rp
    subst e
    exact big a ru
  | dict kvs => exact (show False from rp).elim
section
variable {X : Cx} {ρ : En} {ω ω1 : Sto} {a : Expr} {pos p : Pos} {k : Nat}
theorem de_repr {d : PyData} {w : Wd} (hgd : X.A.guards = some []) (hr : Room k X.A) (hm : X.mg "repr" = none) (A : DE X a ρ ω (.v d) ω1) (h : reprW d = some w) (hg : Gl X "repr" := by rfl) (hs : Sg X a [] pos := by exact ⟨rfl, rfl⟩) : DE X (.Call (.Name "repr" p) [a] [] pos) ρ ω (.v (cS w)) ω1 := by
  unfold reprW at h
  split at h
  · rename_i hc
    cases h
    simp only [Bool.and_eq_true, decide_eq_true_eq] at hc
    obtain ⟨⟨⟨h1, h2⟩, h3⟩, h4⟩ := hc
    refine de_callB (cr_repr hgd h1 h3 h2 (by have := hr.units; have := hr.un; omega)) hs hg hm (by decide +kernel) (da_one A hs.he) fun Z HF H σ vs Q0 S0 r q => ?_
    obtain ⟨x, _, rfl, r1, rfl⟩ := r
    refine ⟨x, HF, rfl, S0.fh, RD.rp r1, q _ HF H (Same.refl _) S0 ?_⟩
    show Rp HF (.str (S d.shown.cps.toList)) (.str d.shown)
    rw [← S_of]
    exact ⟨rfl, h3, h4⟩
  · cases h
end
/-! ### defs called where no guard stands around -/
structure FnG (P : Program) (w : World) (K : PySem.W.Frag) (mg : Str → Option Value) (base : Heap) (CX : CXT) (k : Nat) (f : Addr) (fd : FuncData) (ps : List Str) (sp : Sp) : Prop where
  len : ∀ vs H Q E, sp vs H Q E → vs.length = ps.length
  run : ∀ (A : Around) (outer : List Env) (s : Shared) (H : Hp) (args : Args) (us : List Value) (vs : List V) (Q : VK) (E : XK), Room k A → A.guards = some [] → Env0 P w K mg base A outer s H → BindsTo s fd args (ps.zip us) → Vals vs us → sp vs H Q E →
    codeAny (model P w) A (.call (.ref f) args) (CR CX outer P w H s Q E) s
section
variable {P : Program} {w : World} {K : PySem.W.Frag} {mg : Str → Option Value} {base : Heap} {CX : CXT} {k : Nat}
theorem fnG_of {f : Addr} {name qual : Str} {params : Arguments} {body : List Stmt} {scope : Scope} {dV kV doc pm cdv ct oc : Value} {an od : Option Addr} {osl : Array (Option Value)} {N ps : List Str} {sp : Sp}
    (lk : K.lookup f = some ⟨oc, od, .func (PySem.W.fnOf name qual params body scope dV kV doc pm an cdv ct), osl⟩) (hcd : PySem.W.codeIn K cdv qual = true) (Sc : FnScope N ps scope) (len : ∀ vs H Q E, sp vs H Q E → vs.length = ps.length)
    (hbody : ∀ (A : Around) (outer : List Env) (s : Shared) (H : Hp) (vs : List V) (Q : VK) (E : XK), Room k (A.deeper (envOfC qual scope s.heap.objs.size f cdv)) → A.guards = some [] → sp vs H Q E →
      ∃ t, PSs (cxOf CX P w K mg base N qual scope f cdv A outer s H E) body t ∧ t { nx := fun _ H' => Q .non H', rt := Q } (L2.start N vs) H) :
    FnG P w K mg base CX (k + 1) f (PySem.W.fnOf name qual params body scope dV kV doc pm an cdv ct) ps sp := by
  refine ⟨len, fun A outer s H args us vs Q E hr hgd e0 hb r hsp => ?_⟩
  have keep0 : ∀ b o, base.get? b = some o → s.heap.get? b = some o := fun b o e => (e0.bs b o e).1
  have inK : K.In s.heap := e0.mod.kin.keeps keep0
  have kinds : ∀ y ∈ ps.zip us, scope.names.lookup y.1 = some .local ∨ (scope.names.lookup y.1 = some .cell ∧ ((cellsFrom (s.heap.objs.size + 1) scope.names []).lookup y.1).isSome = true) := fun y hy =>
    (Sc.par y.1 (List.of_mem_zip (a := y.1) (b := y.2) hy).1).imp id fun q => ⟨q, PySem.W.cellsFrom_some _ _ _ (.inl q)⟩
  refine codeAny_call_function hr.depth (inK _ _ lk) rfl Sc.co Sc.gen rfl (PySem.W.codeRec_of inK hcd) (hb _ _ _ _ (wpAny_newFunctionEnv_cells Sc.kind kinds fun env he s1 x => ?_))
  subst he
  refine ⟨(e0.mod.nolimit.keeps keep0).keeps x.toInCall.keep, codeAny_func ?_⟩
  obtain ⟨t, ht, hq⟩ := hbody A outer s H vs Q E (hr.deeper _) hgd hsp
  have I : L2.Inv (cxOf CX P w K mg base N qual scope f cdv A outer s H E) [] (L2.start N vs) H s1 := inv_start Sc hr.hd e0 (len _ _ _ _ hsp) r x
  refine wpAny_mono (ht.run [] s1 (L2.start N vs) H _ I hq) (fun fl s' hs => ?_) fun e s' hs => hs
  cases fl with
  | ret u =>
    obtain ⟨v, σ', H', J, rv, q⟩ := hs
    exact ⟨v, H', J.os, J.bare, J.base, J.hok, rv, q⟩
  | next =>
    obtain ⟨σ', H', J, q⟩ := hs
    exact ⟨V.non, H', J.os, J.bare, J.base, J.hok, rfl, q⟩
  | brk =>
    obtain ⟨_, _, _, q⟩ := hs
    exact False.elim q
  | cont =>
    obtain ⟨_, _, _, q⟩ := hs
    exact False.elim q
end
section
variable {P : Program} {w : World} {K : PySem.W.Frag} {mg : Str → Option Value} {base : Heap}
theorem fnG_d {x qual : Str} {st : Stmt} {f : Addr} {fd : FuncData} {N ps : List Str} {k : Nat} {R : List D → Sto → (D → Sto → Prop) → Prop} (F : Fun K x qual st f fd) (Sc : FnScope N ps (defScope st)) (hl : ∀ ds ω P, R ds ω P → ds.length = ps.length) (hNp : ps.length ≤ N.length)
    (body : ∀ (cdv : Value) (A : Around) (outer : List Env) (s : Shared) (H : Hp) (E : XK) (ds : List D) (ω : Sto) (Pr : D → Sto → Prop), Room k (A.deeper (envOfC qual (defScope st) s.heap.objs.size f cdv)) → A.guards = some [] → R ds ω Pr →
      DSs (cxOf CX0 P w K mg base N qual (defScope st) f cdv A outer s H E).nox (defBody st) (ds.map some ++ List.replicate (N.length - ds.length) none) ω (RetP Pr)) : FnG P w K mg base CX0 (k + 1) f fd ps (SpC R) := by
  obtain ⟨oc, od, kV, doc, pm, an, cdv, ct, osl, rfl, lk, hcd⟩ := F.ex
  refine fnG_of lk hcd Sc (fun vs H Q E h => ?_) fun A outer s H vs Q E hr hgd h => ?_
  · obtain ⟨ds, ω, Pr, Z, HF, hR, S, r, _⟩ := h
    rw [r.length, hl _ _ _ hR]
  · obtain ⟨ds, ω, Pr, Z, HF, hR, S, r, q⟩ := h
    refine ⟨_, (body cdv A outer s H E ds ω Pr hr hgd hR).nox, Z, HF, S.env (by unfold L2.start; simp [r.length]) fun i d hd => ?_, fun o po => ?_⟩
    · have hi : i < ds.length := by
        by_cases h : i < ds.length
        · exact h
        · rw [List.getElem?_append_right (by simp; omega)] at hd
          rw [List.getElem?_replicate] at hd
          split at hd <;> cases hd
      rw [List.getElem?_append_left (by simp; exact hi), List.getElem?_map, List.getElem?_eq_getElem hi] at hd
      have hd' : ds[i] = d := Option.some.inj (Option.some.inj hd)
      obtain ⟨v, v1, v2⟩ := r.get (List.getElem?_eq_getElem hi)
      refine ⟨v, ?_, hd' ▸ v2⟩
      unfold L2.start
      rw [List.getElem?_append_left (by simp; rw [r.length]; exact hi), List.getElem?_map, v1]
      rfl
    · cases o with
      | nx ρ' ω' => exact fun σ' HF' H' e S' => q _ _ _ HF' H' po e S'.noenv rfl
      | rt d ω' => exact fun v HF' H' e S' r' => q _ _ _ HF' H' po e S' r'
      | bk ρ' ω' => exact po.elim
      | ct ρ' ω' => exact po.elim
      | ex f m => exact po.elim
end
/-! ### the script -/
def scrP (K : PySem.W.Frag) (ns : List Int) (H : Hp) (v : V) : Prop := ∃ a, v = .ref a ∧ SqL K H a (ns.map V.int)
theorem scr_mono (K : PySem.W.Frag) (ns : List Int) (H H' : Hp) (v : V) (e : Same H H') (h : scrP K ns H v) : scrP K ns H' v := by
  obtain ⟨a, rfl, h⟩ := h
  exact ⟨a, rfl, e.seq h⟩
abbrev scrD (K : PySem.W.Frag) (ns : List Int) : D := .ph (scrP K ns) (scr_mono K ns)
section
variable {X : Cx} {ρ : En} {ω ω1 ω2 ω3 : Sto} {a : Expr} {pos p2 : Pos}
theorem cutV_map {α : Type} (f : α → V) (xs : List α) (lo hi : Option Int) : cutV (xs.map f) lo hi = (cut xs lo hi).map f := by
  unfold cutV cut
  rw [List.length_map, List.map_take, List.map_drop]
theorem dn_sliceScr {lo hi : Option Int} {lo' hi' : Option Expr} {ns : List Int} (hz : ns.length ≤ sizeLine) (A : DE X a ρ ω (scrD X.K ns) ω1) (B : DO X lo' ρ ω1 lo ω2) (C : DO X hi' ρ ω2 hi ω3) : DN X (.Subscript a (.Slice lo' hi' none p2) pos) ρ ω (.lst ((cut ns lo hi).map cI)) ω3 :=
  pe_mono (pe_slice sl_list A B C) (te3n fun Z HF H σ x Q S r1 q => by
    obtain ⟨l, rfl, h1⟩ := r1
    refine ⟨l, _, rfl, S.fh.seq h1, fun p hp => ?_⟩
    rw [cutV_map]
    exact q p HF _ (Same.refl _) (S.newC hp (cell_lst (by rw [List.length_map]; exact Nat.le_trans (cut_len _ _ _) hz) (rps_ints _))))
end
/-! ### the end -/
def LawDone (P : Program) (w : World) (fa a : Addr) (s₁ : Shared) : Prop := codeAny (model P w) callerA (.call (.ref fa) ⟨[.ref a], []⟩) (fun r s' => r = .ok (.ret (.bool true)) ∧ OldK s₁.heap s'.heap ∧ s'.os = s₁.os ∧ AllBare s'.gens) s₁
theorem law_callG {P : Program} {w : World} {K : PySem.W.Frag} {mg mb : Str → Option Value} {CX : CXT} {k : Nat} {fa a : Addr} {fd : FuncData} {x : Str} {sp : Sp} {s₁ : Shared} {vs : List Value} {ns : List Int} (kx : K.In s₁.heap) (nsg : s₁.heap.Ns mainGlobals mg) (nsb : s₁.heap.Ns builtinsNs mb)
    (bb : ∀ x : Str, x ≠ "__name__" → mb x = bootBuiltins x) (nolim : s₁.heap.NoLimit) (gn : s₁.gens = #[]) (obj : s₁.heap.get? a = some { cls := .type "list", data := .seq vs.toArray }) (intsA : IntsAre vs ns) (few : ns.length ≤ sizeLine) (room : Room k callerA)
    (F : ∀ base : Heap, K.In base → base.Ns mainGlobals mg → FnG P w K mg base CX k fa fd [x] sp) (bnds : ∀ (s : Shared) (u : Value), BindsTo s fd ⟨[u], []⟩ [(x, u)])
    (prom : ∀ H : Hp, Only H → SqL K H a (ns.map V.int) → sp [.ref a] H (fun v _ => v = .bl true) fun _ _ _ => False) (noex : ∀ H e s', CX [] H s₁ (fun _ _ _ => False) e s' → False) : LawDone P w fa a s₁ := by
  have rvs := vals_ints intsA
  have ln0 := intsA.length
  have main : ∀ H : Hp, Only H → SqL K H a (ns.map V.int) → HOk P w H s₁.heap → (∀ b, H b ≠ none → b = a) → (H a ≠ none → K.lookup a = none) → LawDone P w fa a s₁ := by
    intro H onl sqs hk1 offA offK
    have ground : ∀ {b : Addr} {o : Obj}, s₁.heap.get? b = some o → H b = none → (hidT s₁.heap H).get? b = some o := fun e n => hidT_get e n
    have noDict : ∀ {b : Addr} {o : Obj} {es : Array DictEntry} {ep : Nat}, s₁.heap.get? b = some o → o.data = .dict es ep → H b = none := fun {b o es ep} e d => by
      cases qq : H b with
      | none => rfl
      | some u =>
        have e' : b = a := offA b (by rw [qq]; simp)
        subst e'
        rw [obj] at e; cases e
        have d' : Data.seq vs.toArray _ = Data.dict es ep := d
        cases d'
    have nsOf : ∀ {b : Addr} {m : Str → Option Value}, s₁.heap.Ns b m → (hidT s₁.heap H).Ns b m := fun {b m} ⟨o, es, ep, e, d, r⟩ => ⟨o, es, ep, ground e (noDict e d), d, r⟩
    have inKb : K.In (hidT s₁.heap H) := fun b o e => ground (kx b o e) (by
      cases qq : H b with
      | none => rfl
      | some u =>
        have e' : b = a := offA b (by rw [qq]; simp)
        subst e'
        rw [offK (by rw [qq]; simp)] at e; cases e)
    have modl : Mod K mg (hidT s₁.heap H) := ⟨inKb, nsOf nsg, ⟨mb, nsOf nsb, bb⟩, let ⟨mc, h1, h2⟩ := nolim; ⟨mc, nsOf h1, h2⟩⟩
    have env0 : Env0 P w K mg (hidT s₁.heap H) callerA [] s₁ H := ⟨rfl, modl, fun b o e => of_hidT e, Nat.le_of_eq (hidT_size _ _), trivial, fun b nsb => absurd (show b ∈ ([] : List Addr) from nsb) (by simp), hk1, .of_eq gn⟩
    refine codeAny_mono ((F _ inKb (nsOf nsg)).run callerA [] s₁ H ⟨[.ref a], []⟩ [.ref a] [.ref a] _ _ room rfl env0 (bnds s₁ (.ref a)) (.cons rfl .nil) (prom H onl sqs)) fun r s' h => ?_
    cases r with
    | error e => exact (noex H e s' h).elim
    | ok fl =>
      cases fl with
      | next => exact False.elim h
      | brk => exact False.elim h
      | cont => exact False.elim h
      | ret u =>
        obtain ⟨v, H', oss, brs, unn, hok', r', qq⟩ := h
        have q' : v = .bl true := qq
        subst q'
        obtain rfl : u = Value.bool true := r'
        refine ⟨rfl, OldK.of_keep fun b o e => ?_, oss, brs⟩
        cases qq : H b with
        | none => exact unn.keep b o e qq (by intro z; exact absurd (show b ∈ ([] : List Addr) from z) (by simp)) (by simp)
        | some u =>
          rcases onl b with z | ⟨ob1, xs1, z⟩
          · rw [qq] at z; cases z
          · have zz := unn.frzs b ob1 _ z
            obtain ⟨f1, _⟩ := hk1 b _ z
            obtain ⟨f2, _⟩ := hok' b _ zz
            rw [e] at f1; cases f1
            exact f2
  cases lk0 : K.lookup a with
  | some o =>
    have e := kx a o lk0
    rw [obj] at e
    cases e
    refine main (fun _ => none) (fun _ => .inl rfl) (.inr ⟨_, vs.toArray, _, lk0, rfl, rfl, rfl, by rw [List.size_toArray, ln0]; exact few, by simpa using rvs⟩) (fun b u z => by have z' : (none : Option HO) = some u := z; cases z') (fun b z => absurd rfl z) fun z => absurd rfl z
  | none =>
    refine main (fun b => if b = a then some (.frz { cls := .type "list", data := .seq vs.toArray } (.lst (ns.map V.int))) else none) (fun b => ?_) (.inl (.inr ⟨{ cls := .type "list", data := .seq vs.toArray }, if_pos rfl⟩)) (fun b u z => ?_) (fun b z => ?_) fun _ => lk0
    · by_cases nsb : b = a
      · exact .inr ⟨_, _, if_pos nsb⟩
      · exact .inl (if_neg nsb)
    · by_cases nsb : b = a
      · have z' := (if_pos nsb).symm.trans z
        cases z'
        subst nsb
        exact ⟨obj, by rw [List.length_map]; exact few, vs, _, rvs, obj⟩
      · have z' := (if_neg nsb).symm.trans z
        cases z'
    · by_cases nsb : b = a
      · exact nsb
      · exact absurd (if_neg nsb) z

theorem walkG {l : PySem.W.OpenLaw} {n k : Nat} {q : Program} {loose : List Str} {XP : (Str → Option Value) → Heap → Prop} {YP : World → Heap → Prop} {d : DefRec} {K : Params → PySem.W.Frag} {R : World → PySem.W.Frag → List D → Sto → (D → Sto → Prop) → Prop} {x : Str}
    (hn : l.most = some n) (hn2 : n ≤ sizeLine) (hdf : d.params.defaults = []) (hr : Room k callerA) (hY : ∀ (w : World) (h : Heap), YP w h → (K w.params).In h)
    (F : ∀ (w : World) (mg : Str → Option Value) (fa : Addr) (h : Heap), (K w.params).In h → h.Ns mainGlobals mg → mg d.name = some (.ref fa) → ∃ fd : FuncData, (∀ (s : Shared) (u : Value), BindsTo s fd ⟨[u], []⟩ [(x, u)]) ∧
        ∀ base : Heap, (K w.params).In base → base.Ns mainGlobals mg → FnG l.prog w (K w.params) mg base CX0 k fa fd [x] (SpC (R w (K w.params))))
    (hR : ∀ (w : World) (ns : List Int), ns.length ≤ n → ∃ Pr, R w (K w.params) [scrD (K w.params) ns] [] Pr ∧ ∀ e ω', Pr e ω' → e = .v (cB true)) :
    PySem.W.WalkO q loose XP YP l.row.toRowW d [] (fun f vs => PySem.call f vs) := by
  refine Att.attach_call hn hdf fun w s₀ s₁ mg mb fa o pm cd doc a vs ns G Y ho hd hcd hmg hobj hints hlen hg => ?_
  have kx := hY w _ Y
  obtain ⟨fd, hb, hF⟩ := F w mg fa _ kx G.T.g hmg
  refine law_callG kx G.T.g G.T.b G.T.builtins G.T.nolimit hg hobj hints (Nat.le_trans hlen hn2) hr hF hb (fun H hO hS => ?_) fun H e s' h => h
  have S0 : SK ⟨fun _ => none, H⟩ H H [] [] [] := {
    gh := fun b o h => by cases (show (none : Option HO) = some o from h)
    fh := Same.refl _
    f0 := Same.refl _
    nw := fun b o h => .inr (.inl rfl)
    ln := rfl
    sl := fun i d h => by rw [List.getElem?_nil] at h; cases h
    cs := ⟨fun _ => [], (fun j a c h => by rw [List.getElem?_nil] at h; cases h), fun i j hij hj => absurd hj (Nat.not_lt_zero _)⟩ }
  obtain ⟨Pr, hPr, hq⟩ := hR w ns hlen
  refine ⟨_, _, _, _, H, hPr, S0, ⟨.ref a, [], rfl, ⟨a, rfl, hS⟩, rfl⟩, fun e ω' v HF' H' he _ _ r => ?_⟩
  have he := hq e ω' he
  subst he
  exact r
end Q
end

section
set_option Elab.async false
set_option linter.all false
set_option maxRecDepth 100000
set_option maxHeartbeats 4000000
/-! LAYER 16: small words for what the small program prints. -/
namespace Q
open PySem L2 TL QX
open PySem.Spec PyProof.Rows
def okX {β : Type} : Option (β ⊕ Int) → Option β
  | some (.inl y) => some y
  | _ => none
theorem okX_some {β : Type} {m : Option (β ⊕ Int)} {y : β} (h : okX m = some y) : m = some (.inl y) := by
  cases m with
  | none => cases h
  | some r =>
    cases r with
    | inl z => cases h; rfl
    | inr n => cases h
def tryJ {α β : Type} (f : β → α) (r : β ⊕ Int) (t : α) (w : Option Int) : α × Option Int :=
  match r with
  | .inl y => (f y, w)
  | .inr n => (t, some n)
section
variable {X : Cx} {nm qual msg fld : Str} {C fI : Addr} {ρ ρ' : En} {ω ω1 : Sto} {e : Expr} {es : List Expr} {p pos : Pos} {P : OP} {rest : List Stmt} {k : Nat} {A β : Type} {m : A → Option (β ⊕ Int)} {ds : A → List D} {d : β → D} {g : Str} {f : Addr} {fd : FuncData} {ps : List Str}
theorem dss_tryJ {x : A} {r : β ⊕ Int} (i j l : Nat) {t wn en : Str} {pt np pw pe pa pas apos hp tpos : Pos} (F : FnOk X.prog X.w X.K X.mg X.base (L2.CX X.prog X.w) k f fd ps (SpX C fld m ds d)) (T : ErrTxt X.prog X.K X.mg nm qual msg fld C fI) (hr : Room k X.A) (hm : X.mg g = some (.ref f)) (hk : PySem.W.keepIn X.K (.ref f) = true) (hb : Binds X.K fd ps [])
    (B : ∀ pn xe, DA (X.tr pn xe) (e :: es) ρ ω (ds x) ω) (hx : m x = some r)
    (h1 : ∀ y, r = .inl y → Wk (ρ.set i (some (d y))) ρ') (h2 : ∀ n, r = .inr n → Wk ((ρ.set j (some (.v (cI n)))).set l none) ρ') (R : DSs X rest ρ' ω P)
    (hst : X.stack = X.env :: X.outer := by rfl) (hfr : X.env.frame = some X.env.locals := by rfl) (hN : X.N.Nodup := by assumption) (hi : X.N[i]? = some t := by rfl) (hj : X.N[j]? = some wn := by rfl) (hl : X.N[l]? = some en := by rfl) (hjl : j ≠ l := by decide) (hlr : decide (l < ρ.length) = true := by rfl)
    (hxi : X.env.scope.names.lookup t = some .local := by rfl) (hxj : X.env.scope.names.lookup wn = some .local := by rfl) (hxl : X.env.scope.names.lookup en = some .local := by rfl) (hkl : X.env.kindOf en = some .local := by rfl)
    (hg : Gl X g := by rfl) (hgn : Gl X nm := by rfl) (hdn : (nm == ("__debug__" : Str)) = false := by decide) (hdb : (g == ("__debug__" : Str)) = false := by decide) (hde : (en == ("__debug__" : Str)) = false := by decide) (hce : (en == ("__classdict__" : Str)) = false := by decide)
    (he : starEach (e :: es) X.env = (false, eval e X.env) :: starEach es X.env := by rfl) (hpl : (backTo pos (starEach es X.env)).any (·.1) = false := by rfl)
    (hs1 : swapsWith (.Call (.Name g p) (e :: es) [] pos) (some (.Name t pt)) apos.line X.env = pure false := by rfl) (hs2 : swapsWith (.Attribute (.Name en pe) fld pa) (some (.Name wn pw)) pas.line X.env = pure false := by rfl)
    (hat : attributeBase (.Name en pe) fld X.env (eval (.Name en pe) X.env) = eval (.Name en pe) X.env := by rfl) :
    DSs X (.Try [.Assign [.Name t pt] (.Call (.Name g p) (e :: es) [] pos) apos] [.ExceptHandler (some (.Name nm np)) (some en) [.Assign [.Name wn pw] (.Attribute (.Name en pe) fld pa) pas] hp] [] [] tpos :: rest) ρ ω P :=
  dss_tryX i j l F T hr hm hk hb B hx (fun y hy => dss_pre R (h1 y hy) (Pk.refl _)) (fun n hn => dss_pre R (h2 n hn) (Pk.refl _)) hst hfr hN hi hj hl hjl hlr hxi hxj hxl hkl hg hgn hdn hdb hde hce he hpl hs1 hs2 hat
end
theorem dn_case {X : Cx} {e : Expr} {ρ : En} {ω ω' : Sto} {α : Type} {c : α → Cell} {k : Bool} {x y : Option α} {v : α} (h : cnd k x y = some v) (A : k = true → x = some v → DN X e ρ ω (c v) ω') (B : k = false → y = some v → DN X e ρ ω (c v) ω') : DN X e ρ ω (c v) ω' := by
  cases k with
  | true => exact A rfl h
  | false => exact B rfl h
abbrev l2 {α β : Type} (a : α → PyData) (b : β → PyData) (p : α × β) : PyData := .list [a p.1, b p.2]
abbrev l3 {α β γ : Type} (a : α → PyData) (b : β → PyData) (c : γ → PyData) (p : α × β × γ) : PyData := .list [a p.1, b p.2.1, c p.2.2]
abbrev l4 {α β γ δ : Type} (a : α → PyData) (b : β → PyData) (c : γ → PyData) (d : δ → PyData) (p : α × β × γ × δ) : PyData := .list [a p.1, b p.2.1, c p.2.2.1, d p.2.2.2]
end Q
namespace Q
open PySem L2
/-- an own error is what its name in a clause names -/
theorem exm_self {K : PySem.W.Frag} {C : Addr} (h1 : PySem.W.subIn K (.ref C) (.type "BaseException") = some true) (h2 : PySem.W.isClsIn K C = true) (h3 : PySem.W.typeIn K (.ref C) = some (.type "type")) (h4 : PySem.W.subIn K (.ref C) (.ref C) = some true) : PySem.W.exmOne K (.ref C) (.ref C) = some true := by
  have k1 : (PySem.W.subIn K (.ref C) (.type "BaseException") == some true) = true := by rw [h1]; rfl
  have k2 : ((PySem.W.clsIn K C).isSome && PySem.W.typeIn K (.ref C) == some (.type "type")) = true := by
    rw [show (PySem.W.clsIn K C).isSome = true from h2, h3]; rfl
  show (if (PySem.W.subIn K (.ref C) (.type "BaseException") == some true) = true then (if ((PySem.W.clsIn K C).isSome && PySem.W.typeIn K (.ref C) == some (.type "type")) = true then PySem.W.subIn K (.ref C) (.ref C) else none) else none) = some true
  rw [if_pos k1, if_pos k2, h4]
end Q
end

section
set_option Elab.async false
set_option linter.all false
set_option maxRecDepth 100000
set_option maxHeartbeats 4000000
/-! LAYER 17 (plain): what holds of an answer; loops with a claim kept; rows in order, each once. -/
namespace Q
open PySem L2 TL
open PySem.W (dataLt dataLe keyToks alike)
open PyProof.Rows (KeyOrd listOrd itemOrd)

/-! ### an answer that is there, and what holds of it -/
def wp {α : Type} (m : Option α) (P : α → Prop) : Prop := ∃ a, m = some a ∧ P a
section
variable {α β S : Type} {P : α → Prop} {m : Option α}
theorem wp_some {a : α} (h : P a) : wp (some a) P := ⟨a, rfl, h⟩
theorem wp_mono {Q : α → Prop} (h : wp m P) (k : ∀ a, P a → Q a) : wp m Q := by
  obtain ⟨a, h1, h2⟩ := h
  exact ⟨a, h1, k a h2⟩
theorem wp_bind {m : Option β} {f : β → Option α} {R : β → Prop} (h : wp m R) (k : ∀ b, R b → wp (f b) P) : wp (m.bind f) P := by
  obtain ⟨b, h1, h2⟩ := h
  rw [h1]
  exact k b h2
theorem wp_eq {m : Option β} {f : β → Option α} {b : β} (h : m = some b) (k : wp (f b) P) : wp (m.bind f) P := by
  rw [h]
  exact k
theorem wp_lt {a : β} {f : β → Option α} (h : wp (f a) P) : wp (lt a f) P := h
theorem wp_gd {p : Prop} [Decidable p] (hp : p) (h : wp m P) : wp (gd p m) P := by
  unfold gd
  rw [if_pos hp]
  exact h
theorem wp_cnd {b : Bool} {x y : Option α} (h1 : b = true → wp x P) (h2 : b = false → wp y P) : wp (cnd b x y) P := by
  cases b with
  | true => exact h1 rfl
  | false => exact h2 rfl
theorem wp_eqm {m n : Option α} (h : m = n) (k : wp n P) : wp m P := h ▸ k
theorem wp_and {Q : α → Prop} (h : wp m P) (k : ∀ a, m = some a → P a → Q a) : wp m Q := by
  obtain ⟨a, h1, h2⟩ := h
  exact ⟨a, h1, k a h1 h2⟩
theorem wp_forS {f : β → S → Option S} {I : List β → S → Prop} : ∀ (xs : List β) (s : S), I xs s → (∀ x r s, x ∈ xs → I (x :: r) s → wp (f x s) (I r)) → wp (forS f xs s) (I [])
  | [], s, h, k => ⟨s, rfl, h⟩
  | x :: xs, s, h, k => by
    refine wp_bind (k x xs s (List.mem_cons_self ..) h) fun s' h' => ?_
    exact wp_forS xs s' h' fun y r t hy => k y r t (List.mem_cons_of_mem _ hy)
/-- a claim kept that does not look at what is left -/
theorem wp_forS' {f : β → S → Option S} {I : S → Prop} (xs : List β) (s : S) (h : I s) (k : ∀ x s, x ∈ xs → I s → wp (f x s) I) : wp (forS f xs s) I :=
  wp_forS (I := fun _ => I) xs s h fun x _ s hx hs => k x s hx hs
/-- a loop that may end with an answer -/
theorem wp_forC {R : Type} {f : β → S → Option (Ctl S R)} {I : List β → S → Prop} {E : R → Prop} : ∀ (xs : List β) (s : S), I xs s →
    (∀ x r s, x ∈ xs → I (x :: r) s → wp (f x s) fun | .nx s' => I r s' | .bk _ => False | .rt q => E q) → wp (forC f xs s) fun | .nx s' => I [] s' | .bk _ => False | .rt q => E q
  | [], s, h, k => ⟨_, rfl, h⟩
  | x :: xs, s, h, k => by
    refine wp_bind (k x xs s (List.mem_cons_self ..) h) fun c hc => ?_
    cases c with
    | nx s' => exact wp_forC xs s' hc fun y r t hy => k y r t (List.mem_cons_of_mem _ hy)
    | bk _ => exact hc.elim
    | rt q => exact ⟨_, rfl, hc⟩
/-- a comprehension without tests, element by element -/
theorem wp_compO {f : β → S → Option (α × S)} {I : S → Prop} {Pe : β → α → Prop} : ∀ (xs : List β) (s : S), I s → (∀ x s, x ∈ xs → I s → wp (f x s) fun y => Pe x y.1 ∧ I y.2) →
    wp (compO (fun _ _ => some true) f xs s) fun l => l.1.length = xs.length ∧ (∀ z ∈ l.1, ∃ x ∈ xs, Pe x z) ∧ I l.2
  | [], s, h, k => ⟨_, rfl, rfl, (fun _ h => nomatch h), h⟩
  | x :: xs, s, h, k => by
    unfold compO
    refine wp_eq (b := true) rfl ?_
    show wp ((f x s).bind _) _
    refine wp_bind (k x s (List.mem_cons_self ..) h) fun y hy => ?_
    refine wp_bind (wp_compO xs y.2 hy.2 fun z t hz => k z t (List.mem_cons_of_mem _ hz)) fun l hl => ?_
    refine ⟨_, rfl, by rw [List.length_cons, List.length_cons, hl.1], fun z hz => ?_, hl.2.2⟩
    rcases List.mem_cons.mp hz with rfl | hz
    · exact ⟨x, List.mem_cons_self .., hy.1⟩
    · obtain ⟨w, h1, h2⟩ := hl.2.1 z hz
      exact ⟨w, List.mem_cons_of_mem _ h1, h2⟩
theorem wp_whS {t : S → Option Bool} {f : S → Option S} {I : S → Prop} (μ : S → Nat) : ∀ (n : Nat) (s : S), I s → μ s < n → (∀ s, I s → wp (t s) fun b => b = true → wp (f s) fun s' => I s' ∧ μ s' < μ s) → wp (whS t f n s) fun s => I s ∧ t s = some false
  | 0, s, _, hn, _ => absurd hn (Nat.not_lt_zero _)
  | n + 1, s, hI, hn, k => by
    unfold whS
    obtain ⟨b, h1, h2⟩ := k s hI
    rw [h1]
    cases b with
    | false => exact ⟨s, rfl, hI, h1⟩
    | true =>
      show wp ((f s).bind _) _
      exact wp_bind (h2 rfl) fun s' h => wp_whS μ n s' h.1 (by omega) k
end
theorem atI_nat {α : Type} (xs : List α) (k : Nat) : atI xs (k : Int) = xs[k]? := by
  unfold atI ixN
  rw [if_pos (Int.natCast_nonneg k)]
  split
  · rfl
  · rename_i h
    show none = _
    rw [List.getElem?_eq_none (by omega)]
theorem atI_in {α : Type} {xs : List α} {i : Int} (h0 : 0 ≤ i) (h1 : i < xs.length) : ∃ x, atI xs i = some x ∧ x ∈ xs := by
  obtain ⟨k, rfl⟩ := Int.eq_ofNat_of_zero_le h0
  have hk : k < xs.length := by omega
  exact ⟨xs[k], by rw [atI_nat, List.getElem?_eq_getElem hk], List.getElem_mem hk⟩
theorem atI_last {α : Type} {xs : List α} (h : xs ≠ []) : atI xs (0 - 1) = some (xs.getLast h) := by
  have hl : 0 < xs.length := List.length_pos_iff.mpr h
  unfold atI ixN
  rw [if_neg (by omega), if_pos (by omega)]
  show xs[(0 - 1 + (xs.length : Int)).toNat]? = _
  rw [List.getLast_eq_getElem, show (0 - 1 + (xs.length : Int)).toNat = xs.length - 1 by omega, List.getElem?_eq_getElem]
theorem popI_in {α : Type} {xs : List α} {i : Int} (h0 : 0 ≤ i) (h1 : i < xs.length) : ∃ (k : Nat) (h : k < xs.length), popI xs i = some (xs[k], xs.eraseIdx k) := by
  obtain ⟨k, rfl⟩ := Int.eq_ofNat_of_zero_le h0
  have hk : k < xs.length := by omega
  refine ⟨k, hk, ?_⟩
  unfold popI ixN
  rw [if_pos h0, if_pos h1]
  show (xs[((k : Nat) : Int).toNat]?).map _ = _
  rw [Int.toNat_natCast, List.getElem?_eq_getElem hk]
  rfl

/-! ### rows in order, each once -/
section
variable {α : Type} {c : α → PyData}
def Inj (c : α → PyData) : Prop := ∀ x y, keyToks (c x) = keyToks (c y) → x = y
theorem ltd_irrefl (x : PyData) : dataLt x x = false := (listOrd itemOrd).irrefl (keyToks x)
theorem ltd_trans {x y z : PyData} (h1 : dataLt x y = true) (h2 : dataLt y z = true) : dataLt x z = true := (listOrd itemOrd).trans _ _ _ h1 h2
theorem ltd_total (hi : Inj c) {x y : α} (h1 : dataLt (c x) (c y) = false) (h2 : dataLt (c y) (c x) = false) : x = y := hi x y ((listOrd itemOrd).total _ _ h1 h2)
theorem ltd_asymm {x y : PyData} (h : dataLt x y = true) : dataLt y x = false := by
  cases e : dataLt y x with
  | false => rfl
  | true => exact absurd (ltd_trans h e) (by rw [ltd_irrefl]; exact Bool.false_ne_true)
theorem le_iff {x y : α} : dataLe false c x y = !dataLt (c y) (c x) := rfl
def Asc (c : α → PyData) (l : List α) : Prop := l.Pairwise fun x y => dataLt (c x) (c y) = true
theorem asc_unique : ∀ {l m : List α}, Asc c l → Asc c m → (∀ x, x ∈ l ↔ x ∈ m) → l = m
  | [], [], _, _, _ => rfl
  | [], y :: m, _, _, h => absurd ((h y).mpr (List.mem_cons_self ..)) (List.not_mem_nil)
  | x :: l, [], _, _, h => absurd ((h x).mp (List.mem_cons_self ..)) (List.not_mem_nil)
  | x :: l, y :: m, h1, h2, h => by
    obtain ⟨a1, a2⟩ := List.pairwise_cons.mp h1
    obtain ⟨b1, b2⟩ := List.pairwise_cons.mp h2
    have e : x = y := by
      rcases List.mem_cons.mp ((h x).mp (List.mem_cons_self ..)) with e | hx
      · exact e
      rcases List.mem_cons.mp ((h y).mpr (List.mem_cons_self ..)) with e | hy
      · exact e.symm
      exact absurd (ltd_trans (a1 y hy) (b1 x hx)) (by rw [ltd_irrefl]; exact Bool.false_ne_true)
    subst e
    refine congrArg _ (asc_unique a2 b2 fun z => ⟨fun hz => ?_, fun hz => ?_⟩)
    · rcases List.mem_cons.mp ((h z).mp (List.mem_cons_of_mem _ hz)) with e | h'
      · exact absurd (a1 z hz) (by rw [e, ltd_irrefl]; exact Bool.false_ne_true)
      · exact h'
    · rcases List.mem_cons.mp ((h z).mpr (List.mem_cons_of_mem _ hz)) with e | h'
      · exact absurd (b1 z hz) (by rw [e, ltd_irrefl]; exact Bool.false_ne_true)
      · exact h'
theorem sortBy_pw (c : α → PyData) (xs : List α) : (sortBy c xs).Pairwise fun x y => dataLt (c y) (c x) = false := by
  have := PySem.W.sort_pairwise (PySem.W.sortLe_total (listOrd itemOrd) false fun b => keyToks (c b)) xs
  exact this.imp fun {x y} h => by
    have : (!dataLt (c y) (c x)) = true := h
    simpa using this
theorem sortBy_mem (c : α → PyData) (xs : List α) (x : α) : x ∈ sortBy c xs ↔ x ∈ xs := List.mem_mergeSort
theorem sortBy_len (c : α → PyData) (xs : List α) : (sortBy c xs).length = xs.length := List.length_mergeSort _
theorem sortBy_map {β : Type} (f : β → α) (xs : List β) : sortBy c (xs.map f) = (sortBy (fun x => c (f x)) xs).map f := (PySem.W.sort_maps f fun _ _ _ _ => rfl).symm
theorem sortBy_asc {xs : List α} (h : Asc c xs) : sortBy c xs = xs := by
  refine List.mergeSort_of_pairwise (h.imp fun {x y} h => ?_)
  show (!dataLt (c y) (c x)) = true
  rw [ltd_asymm h]; rfl
/-- one after the other, each once -/
def uniq [DecidableEq α] (c : α → PyData) (xs : List α) : List α := (sortBy c xs).foldl (fun s e => if s.getLast? = some e then s else s ++ [e]) []
theorem uniq_loop [DecidableEq α] (hi : Inj c) : ∀ (xs s : List α), xs.Pairwise (fun x y => dataLt (c y) (c x) = false) → Asc c s → (∀ y ∈ s, ∀ x ∈ xs, dataLt (c x) (c y) = false) →
    Asc c (xs.foldl (fun s e => if s.getLast? = some e then s else s ++ [e]) s) ∧ (∀ z, z ∈ xs.foldl (fun s e => if s.getLast? = some e then s else s ++ [e]) s ↔ z ∈ s ∨ z ∈ xs) ∧ (xs.foldl (fun s e => if s.getLast? = some e then s else s ++ [e]) s).length ≤ s.length + xs.length
  | [], s, _, h, _ => ⟨h, fun z => by simp, Nat.le_refl _⟩
  | x :: xs, s, hp, hs, hle => by
    obtain ⟨p1, p2⟩ := List.pairwise_cons.mp hp
    rw [List.foldl_cons]
    by_cases e : s.getLast? = some x
    · rw [if_pos e]
      obtain ⟨a, b, d⟩ := uniq_loop hi xs s p2 hs fun y hy z hz => hle y hy z (List.mem_cons_of_mem _ hz)
      have hx : x ∈ s := List.mem_of_getLast? e
      refine ⟨a, fun z => ?_, by rw [List.length_cons]; omega⟩
      rw [b z, List.mem_cons]
      constructor
      · rintro (h | h)
        · exact .inl h
        · exact .inr (.inr h)
      · rintro (h | rfl | h)
        · exact .inl h
        · exact .inl hx
        · exact .inr h
    · rw [if_neg e]
      have hlt : ∀ y ∈ s, dataLt (c y) (c x) = true := by
        intro y hy
        have h0 := hle y hy x (List.mem_cons_self ..)
        cases h1 : dataLt (c y) (c x) with
        | true => rfl
        | false =>
          have := ltd_total hi h1 h0
          subst this
          exfalso
          obtain ⟨l, hl⟩ : ∃ l, s.getLast? = some l := by
            cases hh : s.getLast? with
            | none => rw [List.getLast?_eq_none_iff] at hh; rw [hh] at hy; cases hy
            | some l => exact ⟨l, rfl⟩
          have hl2 : l ≠ y := fun e' => e (by rw [hl, e'])
          obtain ⟨t, ht⟩ := List.getLast?_eq_some_iff.mp hl
          rw [ht] at hy hs
          rcases List.mem_append.mp hy with hy | hy
          · have h3 := (List.pairwise_append.mp hs).2.2 y hy l (List.mem_singleton.mpr rfl)
            have h4 := hle l (by rw [ht]; simp) y (List.mem_cons_self ..)
            rw [h3] at h4; cases h4
          · exact hl2 (List.mem_singleton.mp hy).symm
      have hs' : Asc c (s ++ [x]) := List.pairwise_append.mpr ⟨hs, List.pairwise_singleton .., fun y hy z hz => by rw [List.mem_singleton.mp hz]; exact hlt y hy⟩
      obtain ⟨a, b, d⟩ := uniq_loop hi xs (s ++ [x]) p2 hs' fun y hy z hz => by
        rcases List.mem_append.mp hy with hy | hy
        · exact hle y hy z (List.mem_cons_of_mem _ hz)
        · rw [List.mem_singleton.mp hy]; exact p1 z hz
      refine ⟨a, fun z => ?_, by rw [List.length_append, List.length_singleton] at d; rw [List.length_cons]; omega⟩
      rw [b z, List.mem_append, List.mem_singleton, List.mem_cons]
      constructor
      · rintro ((h | h) | h)
        · exact .inl h
        · exact .inr (.inl h)
        · exact .inr (.inr h)
      · rintro (h | h | h)
        · exact .inl (.inl h)
        · exact .inl (.inr h)
        · exact .inr h
theorem uniq_spec [DecidableEq α] (hi : Inj c) (xs : List α) : Asc c (uniq c xs) ∧ (∀ z, z ∈ uniq c xs ↔ z ∈ xs) ∧ (uniq c xs).length ≤ xs.length := by
  obtain ⟨a, b, d⟩ := uniq_loop hi (sortBy c xs) [] (sortBy_pw c xs) .nil (fun y hy => nomatch hy)
  refine ⟨a, fun z => ?_, ?_⟩
  · show z ∈ List.foldl _ _ _ ↔ _
    rw [b z, sortBy_mem]; simp
  · rw [sortBy_len, List.length_nil, Nat.zero_add] at d
    exact d
theorem uniq_eq [DecidableEq α] (hi : Inj c) {xs l : List α} (h : Asc c l) (hm : ∀ z, z ∈ l ↔ z ∈ xs) : uniq c xs = l :=
  asc_unique (uniq_spec hi xs).1 h fun z => ((uniq_spec hi xs).2.1 z).trans (hm z).symm
theorem uniq_self [DecidableEq α] (hi : Inj c) {l : List α} : uniq c l = l ↔ Asc c l := ⟨fun h => h ▸ (uniq_spec hi l).1, fun h => uniq_eq hi h fun _ => Iff.rfl⟩
/-- the loop over the rows in order, as it is walked -/
theorem once_loop [DecidableEq α] (f : α → List α → Option (List α)) (hf : ∀ e s, s.length < sizeLine → f e s = some (if s.getLast? = some e then s else s ++ [e])) : ∀ (xs s : List α), s.length + xs.length ≤ sizeLine →
    forS f xs s = some (xs.foldl (fun s e => if s.getLast? = some e then s else s ++ [e]) s)
  | [], s, _ => rfl
  | x :: xs, s, h => by
    rw [List.length_cons] at h
    unfold forS
    rw [hf x s (by omega)]
    show forS f xs _ = _
    rw [once_loop f hf xs _ (by split <;> (try rw [List.length_append, List.length_singleton]) <;> omega)]
    rfl
end
end Q
end

section
set_option Elab.async false
set_option linter.all false
set_option maxRecDepth 100000
set_option maxHeartbeats 4000000
/-! LAYER 18 (plain): repr of small data is there. -/
namespace Q
open PySem L2 TL
mutual
def tame : PyData → Bool
  | .none | .bool _ => true
  | .int i => decide (i.natAbs < 10 ^ 12)
  | .str x => PyData.strOk x
  | .list xs | .tuple xs => tameAll xs
  | .dict _ => false
def tameAll : List PyData → Bool
  | [] => true
  | x :: xs => tame x && tameAll xs
end
theorem tameAll_iff : ∀ xs : List PyData, tameAll xs = true ↔ ∀ x ∈ xs, tame x = true
  | [] => by simp [tameAll]
  | x :: xs => by simp [tameAll, tameAll_iff xs]
mutual
theorem tame_show : ∀ d : PyData, tame d = true → d.showable = true
  | .none, _ => by simp only [PyData.showable]
  | .bool _, _ => by simp only [PyData.showable]
  | .int i, h => by
    simp only [tame, decide_eq_true_eq] at h
    simp only [PyData.showable, decide_eq_true_eq]
    rcases Nat.eq_zero_or_pos i.natAbs with e | e
    · rw [e]; decide
    · have := (Nat.log2_lt (n := i.natAbs) (k := 40) (by omega)).mpr (Nat.lt_of_lt_of_le h (by decide))
      omega
  | .str _, _ => by simp only [PyData.showable]
  | .list xs, h => by
    simp only [tame] at h
    simp only [PyData.showable]
    exact tameAll_show xs h
  | .tuple xs, h => by
    simp only [tame] at h
    simp only [PyData.showable]
    exact tameAll_show xs h
  | .dict _, h => by simp only [tame] at h; cases h
theorem tameAll_show : ∀ ds : List PyData, tameAll ds = true → PyData.showableAll ds = true
  | [], _ => by simp only [PyData.showableAll]
  | x :: xs, h => by
    simp only [tameAll, Bool.and_eq_true] at h
    simp only [PyData.showableAll, Bool.and_eq_true]
    exact ⟨tame_show x h.1, tameAll_show xs h.2⟩
end
mutual
theorem tame_short : ∀ d : PyData, tame d = true → d.leavesShort 13 = true
  | .none, _ => rfl
  | .bool _, _ => rfl
  | .int i, h => by
    simp only [tame, decide_eq_true_eq] at h
    simp only [PyData.leavesShort, decide_eq_true_eq]
    exact PyData.shown_int_le h
  | .str x, h => by
    simp only [tame, PyData.strOk] at h
    simp only [PyData.leavesShort, List.all_eq_true, decide_eq_true_eq]
    intro c hc
    have h1 := (Array.all_eq_true_iff_forall_mem.mp h) c (Array.mem_toList_iff.mp hc)
    have h2 : c < 0x110000 := by simpa using h1
    exact Nat.lt_trans h2 (by decide)
  | .list xs, h => by
    simp only [tame] at h
    simp only [PyData.leavesShort]
    exact tameAll_short xs h
  | .tuple xs, h => by
    simp only [tame] at h
    simp only [PyData.leavesShort]
    exact tameAll_short xs h
  | .dict _, h => by simp only [tame] at h; cases h
theorem tameAll_short : ∀ ds : List PyData, tameAll ds = true → PyData.leavesShortAll 13 ds = true
  | [], _ => rfl
  | x :: xs, h => by
    simp only [tameAll, Bool.and_eq_true] at h
    simp only [PyData.leavesShortAll, Bool.and_eq_true]
    exact ⟨tame_short x h.1, tameAll_short xs h.2⟩
end
theorem chr_lt (c : Char) : c.toNat < 0x110000 := by
  have := c.valid
  rcases this with h | h
  · show c.val.toNat < _
    exact Nat.lt_trans h (by decide)
  · exact h.2
theorem reprChar_lt {q c : Nat} (hq : q < 0x110000) (hc : c < 0x110000) : ∀ z ∈ Builtin.Str.reprChar q c, z < 0x110000 := by
  have hex : ∀ k, ∀ z ∈ (List.replicate (k - ((Nat.toDigits 16 c).map Char.toNat).length) 48 ++ (Nat.toDigits 16 c).map Char.toNat), z < 0x110000 := by
    intro k z hz
    rcases List.mem_append.mp hz with h | h
    · rw [(List.mem_replicate.mp h).2]; decide
    · obtain ⟨ch, _, rfl⟩ := List.mem_map.mp h
      exact chr_lt ch
  have two : ∀ (a b : Nat) (l : List Nat), a < 0x110000 → b < 0x110000 → (∀ z ∈ l, z < 0x110000) → ∀ z ∈ [a, b] ++ l, z < 0x110000 := by
    intro a b l ha hb hl z hz
    simp only [List.cons_append, List.nil_append, List.mem_cons] at hz
    rcases hz with rfl | rfl | hz
    · exact ha
    · exact hb
    · exact hl z hz
  unfold Builtin.Str.reprChar
  dsimp only
  intro z hz
  repeat' split at hz
  · exact two 92 c [] (by decide) hc (fun _ h => nomatch h) z (by simpa using hz)
  · exact two 92 110 [] (by decide) (by decide) (fun _ h => nomatch h) z (by simpa using hz)
  · exact two 92 114 [] (by decide) (by decide) (fun _ h => nomatch h) z (by simpa using hz)
  · exact two 92 116 [] (by decide) (by decide) (fun _ h => nomatch h) z (by simpa using hz)
  · rw [List.mem_singleton.mp hz]; exact hc
  · exact two 92 120 _ (by decide) (by decide) (hex 2) z hz
  · exact two 92 117 _ (by decide) (by decide) (hex 4) z hz
  · exact two 92 85 _ (by decide) (by decide) (hex 8) z hz
theorem reprFold_lt {q : Nat} (hq : q < 0x110000) : ∀ (l : List Nat) (acc : Array Nat), (∀ c ∈ l, c < 0x110000) → (∀ z ∈ acc.toList, z < 0x110000) → ∀ z ∈ (l.foldl (fun out c => out ++ (Builtin.Str.reprChar q c).toArray) acc).toList, z < 0x110000
  | [], acc, _, h => h
  | c :: r, acc, hc, h => by
    rw [List.foldl_cons]
    refine reprFold_lt hq r _ (fun d hd => hc d (List.mem_cons_of_mem _ hd)) fun z hz => ?_
    rw [Array.toList_append, List.mem_append] at hz
    rcases hz with hz | hz
    · exact h z hz
    · exact reprChar_lt hq (hc c (List.mem_cons_self ..)) z hz
theorem reprText_lt (x : Str) (hx : ∀ c ∈ x.cps.toList, c < 0x110000) : ∀ z ∈ (PySem.reprText x).cps.toList, z < 0x110000 := by
  have hq : PySem.reprQuote x < 0x110000 := by unfold PySem.reprQuote; split <;> decide
  unfold PySem.reprText
  intro z hz
  rw [Array.toList_push, List.mem_append, ← Array.foldl_toList] at hz
  rcases hz with hz | hz
  · exact reprFold_lt hq _ _ hx (fun y hy => by rw [List.mem_singleton.mp hy]; exact hq) z hz
  · rw [List.mem_singleton.mp hz]; exact hq
theorem lit_lt (s : String) : ∀ z ∈ ((s : String) : Str).cps.toList, z < 0x110000 := by
  intro z hz
  rw [show ((s : String) : Str) = Str.ofString s from rfl, PyProof.Rows.signs_ofString] at hz
  obtain ⟨ch, _, rfl⟩ := List.mem_map.mp hz
  exact chr_lt ch
mutual
theorem tame_lt : ∀ d : PyData, tame d = true → ∀ z ∈ d.shown.cps.toList, z < 0x110000
  | .none, _ => by rw [PyData.shown_none]; exact lit_lt _
  | .bool b, _ => by
    rw [PyData.shown_bool]
    cases b
    · exact lit_lt "False"
    · exact lit_lt "True"
  | .int i, _ => by rw [PyData.shown_int]; exact lit_lt _
  | .str x, h => by
    rw [PyData.shown_str]
    simp only [tame, PyData.strOk] at h
    exact reprText_lt x fun c hc => by
      have h1 := (Array.all_eq_true_iff_forall_mem.mp h) c (Array.mem_toList_iff.mp hc)
      simpa using h1
  | .list xs, h => by
    simp only [tame] at h
    rw [PyData.shown_list]
    intro z hz
    rw [PyProof.Rows.mem_cps_append, PyProof.Rows.mem_cps_append, PyProof.Rows.mem_join] at hz
    rcases hz with (hz | ⟨t, ht, hz⟩ | ⟨_, hz⟩) | hz
    · exact lit_lt "[" z hz
    · exact tameAll_lt xs h t ht z hz
    · exact lit_lt ", " z hz
    · exact lit_lt "]" z hz
  | .tuple xs, h => by
    simp only [tame] at h
    rw [PyData.shown_tuple]
    intro z hz
    rw [PyProof.Rows.mem_cps_append, PyProof.Rows.mem_cps_append, PyProof.Rows.mem_join] at hz
    rcases hz with (hz | ⟨t, ht, hz⟩ | ⟨_, hz⟩) | hz
    · exact lit_lt "(" z hz
    · exact tameAll_lt xs h t ht z hz
    · exact lit_lt ", " z hz
    · exact lit_lt _ z hz
  | .dict _, h => by simp only [tame] at h; cases h
theorem tameAll_lt : ∀ ds : List PyData, tameAll ds = true → ∀ t ∈ PyData.shownAll ds, ∀ z ∈ t.cps.toList, z < 0x110000
  | [], _, t, ht => by rw [PyData.shownAll_nil] at ht; cases ht
  | x :: xs, h, t, ht => by
    simp only [tameAll, Bool.and_eq_true] at h
    rw [PyData.shownAll_cons, List.mem_cons] at ht
    rcases ht with rfl | ht
    · exact tame_lt x h.1
    · exact tameAll_lt xs h.2 t ht
end
theorem repr_tame {d : PyData} (h : tame d = true) (hw : d.weight ≤ 2 ^ 20) (hd : d.depth ≤ 64) : ∃ w, reprW d = some w := by
  refine ⟨_, if_pos ?_⟩
  simp only [Bool.and_eq_true, decide_eq_true_eq]
  refine ⟨⟨⟨tame_show d h, hd⟩, PyData.shown_fits (by decide) (by decide) (tame_short d h) hw⟩, ?_⟩
  unfold PyData.strOk
  rw [Array.all_eq_true_iff_forall_mem]
  intro c hc
  simpa using tame_lt d h c (Array.mem_toList_iff.mpr hc)
end Q
end

section
set_option Elab.async false
set_option linter.all false
set_option maxRecDepth 100000
set_option maxHeartbeats 4000000
namespace K44
open PySem L2 Q TL
abbrev CS := List Int × Int × Int × Int × Int
abbrev PW := Int × Wd
abbrev cPW : PW → PyData := c2 cI cS
abbrev EW := Int × Wd × Wd × Int
abbrev cEW : EW → PyData := c4 cI cS cS cI
abbrev Mach := Int × List PW × List EW × List PW
abbrev cMach : Mach → PyData := c4 cI (cT cPW) (cT cEW) (cT cPW)
abbrev Parts := Int × List PW × List EW × List PW
abbrev cParts : Parts → PyData := fun p => .list [cI p.1, cL cPW p.2.1, cL cEW p.2.2.1, cL cPW p.2.2.2]

def m_law_start (x_script : (List Int)) : Option (CS) :=
  gd (x_script.length ≤ sizeLine) <| some (List.map (fun (e2 : Int) => e2) (cut x_script none (some 63)), 0, 0, 0, 20)

def m_law_fill (x_c : CS) : Option (Int × CS) :=
  lt ((x_c.2.2.2.1 + 1)) fun v1 => lt (((v1 * 69621) + 12345)) fun v2 => (cnd (decide (x_c.2.1 < (x_c.1.length : Int))) ((atI x_c.1 x_c.2.1).bind fun (x8 : Int) => (atI x_c.1 x_c.2.1).bind fun (x9 : Int) => lt ((if ((0 - 1) - x9) > x8 then ((0 - 1) - x9) else x8)) fun v10 => lt ((x_c.2.1 + 1)) fun v11 => cnd (decide (v10 ≥ (10 ^ 18))) ( some (.rt (v10, (x_c.1, v11, x_c.2.2.1, v1, x_c.2.2.2.2)))) ( some (.nx (v10, (x_c.1, v11, x_c.2.2.1, v1, x_c.2.2.2.2))))) ( some (.nx (v2, (x_c.1, x_c.2.1, x_c.2.2.1, v1, x_c.2.2.2.2)))) : Option (Ctl (Int × CS) (Int × CS))).bind fun | .nx j7 => ((cnd ((!j7.2.1.isEmpty && decide (j7.2.2.1 ≥ (j7.2.1.length : Int)))) ((atI j7.2.1 (-1)).bind fun (x17 : Int) => lt ((j7.1 + (x17 % 1000003))) fun v18 => some v18) ( some j7.1)).bind fun (j16 : Int) => lt ((((j16 * 48271) + (j7.2.2.2.2.1 * 69621)) % 2147483647)) fun v19 => gd ((decide (-(2 ^ 64) < v19 ∧ v19 < 2 ^ 64) || decide (-(2 ^ 64) < v19 ∧ v19 < 2 ^ 64)) = true) <| some ((((((v19 * v19) + (j7.2.2.2.2.1 * 7919)) + 11) / 64) + 36028797018963968), j7.2)) | .bk _ => none | .rt q13 => some q13

def m_law_take (x_c : CS) (x_many : Int) : Option (Int × CS) :=
  (cnd (decide (x_c.2.2.1 < x_many)) ((m_law_fill x_c).bind fun (r3 : Int × CS) => some (r3.2.1, r3.2.2.1, r3.1, r3.2.2.2.2.1, r3.2.2.2.2.2)) ( some x_c)).bind fun (j2 : CS) => gd (0 < x_many) <| lt ((j2.2.2.1 % x_many)) fun v5 => gd (0 < x_many ∧ x_many < 1073741824) <| lt ((j2.2.2.1 / x_many)) fun v7 => some (v5, (j2.1, j2.2.1, v7, j2.2.2.2.1, j2.2.2.2.2))

def m_law_shuffled (x_c : CS) (x_items : (List Int)) : Option ((List Int) × CS) :=
  lt (([] : List Int)) fun v3 => (whS (fun (s4 : CS × (List Int) × (List Int)) =>  some (!s4.2.1.isEmpty)) (fun (s4 : CS × (List Int) × (List Int)) => (m_law_take s4.1 (s4.2.1.length : Int)).bind fun (r6 : Int × CS) => gd (-(2 ^ 63) ≤ (r6.1 : Int) ∧ (r6.1 : Int) < 2 ^ 63) <| (popI s4.2.1 r6.1).bind fun (x8 : Int × List Int) => gd (s4.2.2.length < sizeLine) <| some (r6.2, x8.2, (s4.2.2 ++ [x8.1]))) 1000000 (x_c, x_items, v3)).bind fun (s5 : CS × (List Int) × (List Int)) => some (s5.2.2, s5.1)

def m_law_shuffled_W (x_c : CS) (x_items : (List (List Wd))) : Option ((List (List Wd)) × CS) :=
  lt (([] : List (List Wd))) fun v3 => (whS (fun (s4 : CS × (List (List Wd)) × (List (List Wd))) =>  some (!s4.2.1.isEmpty)) (fun (s4 : CS × (List (List Wd)) × (List (List Wd))) => (m_law_take s4.1 (s4.2.1.length : Int)).bind fun (r6 : Int × CS) => gd (-(2 ^ 63) ≤ (r6.1 : Int) ∧ (r6.1 : Int) < 2 ^ 63) <| (popI s4.2.1 r6.1).bind fun (x8 : (List Wd) × List (List Wd)) => gd (s4.2.2.length < sizeLine) <| some (r6.2, x8.2, (s4.2.2 ++ [x8.1]))) 1000000 (x_c, x_items, v3)).bind fun (s5 : CS × (List (List Wd)) × (List (List Wd))) => some (s5.2.2, s5.1)

def m_law_word (x_c : CS) (x_letters : Wd) (x_most : Int) : Option (Wd × CS) :=
  (m_law_take x_c (x_most + 1)).bind fun (r1 : Int × CS) => gd ((r1.1 : Int) ≤ sizeLine ∧ -(2 ^ 62) ≤ (r1.1 : Int)) <| (compO (fun (e3 : Int) (s6 : CS) => some true) (fun (e3 : Int) (s6 : CS) => (m_law_take s6 (x_letters.length : Int)).bind fun (r7 : Int × CS) => (atI x_letters r7.1).bind fun (z8 : Nat) => some ([z8], r7.2)) (rng 0 r1.1) r1.2).bind fun (l9 : List Wd × CS) => gd ((l9.1.map (·.length)).sum + l9.1.length * ([] : Wd).length ≤ 16777216) <| some (TL.joinL ([] : Wd) l9.1, l9.2)

def m_law_once (x_rows : (List PW)) : Option ((List PW)) :=
  lt (([] : List PW)) fun v2 => (forS (fun (e5 : PW) (s3 : (List PW)) => (cnd (!(!s3.isEmpty)) (some true) ((atI s3 (0 - 1)).bind fun (x6 : PW) => some (!PyData.eqv (cPW x6) (cPW e5)))).bind fun (b7 : Bool) => cnd (b7) (gd (s3.length < sizeLine) <| some (s3 ++ [e5])) ( some s3)) (sortBy cPW x_rows) v2).bind fun (s4 : (List PW)) => some s4

def m_law_once_E (x_rows : (List EW)) : Option ((List EW)) :=
  lt (([] : List EW)) fun v2 => (forS (fun (e5 : EW) (s3 : (List EW)) => (cnd (!(!s3.isEmpty)) (some true) ((atI s3 (0 - 1)).bind fun (x6 : EW) => some (!PyData.eqv (cEW x6) (cEW e5)))).bind fun (b7 : Bool) => cnd (b7) (gd (s3.length < sizeLine) <| some (s3 ++ [e5])) ( some s3)) (sortBy cEW x_rows) v2).bind fun (s4 : (List EW)) => some s4

def m_law_once_L (x_rows : (List PyData)) : Option ((List PyData)) :=
  lt (([] : List PyData)) fun v2 => (sortP x_rows).bind fun (x3 : (List PyData)) => (forS (fun (e6 : PyData) (s4 : (List PyData)) => (cnd (!(!s4.isEmpty)) (some true) ((atI s4 (0 - 1)).bind fun (x7 : PyData) => gd (PyData.depth (x7) ≤ 64) <| gd (PyData.depth (e6) ≤ 64) <| some (!PyData.eqv (x7) (e6)))).bind fun (b10 : Bool) => cnd (b10) (gd (s4.length < sizeLine) <| some (s4 ++ [e6])) ( some s4)) x3 v2).bind fun (s5 : (List PyData)) => some s5

def m_law_once_P (x_rows : PyData) : Option ((List PyData)) :=
  lt (([] : List PyData)) fun v2 => (asT x_rows).bind fun (x3 : (List PyData)) => (sortP x3).bind fun (x4 : (List PyData)) => (forS (fun (e7 : PyData) (s5 : (List PyData)) => (cnd (!(!s5.isEmpty)) (some true) ((atI s5 (0 - 1)).bind fun (x8 : PyData) => gd (PyData.depth (x8) ≤ 64) <| gd (PyData.depth (e7) ≤ 64) <| some (!PyData.eqv (x8) (e7)))).bind fun (b11 : Bool) => cnd (b11) (gd (s5.length < sizeLine) <| some (s5 ++ [e7])) ( some s5)) x4 v2).bind fun (s6 : (List PyData)) => some s6

def m_law_machine (x_c : CS) (x_parts : Parts) : Option (Mach × CS) :=
  gd (0 ≤ x_parts.1 ∧ x_parts.1 ≤ 16777216) <| (m_law_shuffled x_c (rng 0 x_parts.1)).bind fun (r2 : (List Int) × CS) => (compO (fun (e3 : EW) (s6 : Unit) => some true) (fun (e3 : EW) (s6 : Unit) => (atI r2.1 e3.1).bind fun (x4 : Int) => (atI r2.1 e3.2.2.2).bind fun (x5 : Int) => some ((x4, e3.2.1, e3.2.2.1, x5), ())) x_parts.2.2.1 ()).bind fun (l7 : List EW × Unit) => (compO (fun (e8 : PW) (s10 : Unit) => some true) (fun (e8 : PW) (s10 : Unit) => (atI r2.1 e8.1).bind fun (x9 : Int) => some ((x9, e8.2), ())) x_parts.2.1 ()).bind fun (l11 : List PW × Unit) => (m_law_once l11.1).bind fun (r12 : (List PW)) => (m_law_once_E l7.1).bind fun (r13 : (List EW)) => (compO (fun (e14 : PW) (s16 : Unit) => some true) (fun (e14 : PW) (s16 : Unit) => (atI r2.1 e14.1).bind fun (x15 : Int) => some ((x15, e14.2), ())) x_parts.2.2.2 ()).bind fun (l17 : List PW × Unit) => (m_law_once l17.1).bind fun (r18 : (List PW)) => some ((x_parts.1, r12, r13, r18), r2.2)

def m_law_drawn (x_c : CS) (x_reads : Wd) (x_writes : Wd) (x_many : Int) : Option (Parts × CS) :=
  lt (([] : List EW)) fun v2 => (m_law_take x_c ((3 * x_many) + 2)).bind fun (r3 : Int × CS) => gd ((r3.1 : Int) ≤ sizeLine ∧ -(2 ^ 62) ≤ (r3.1 : Int)) <| (forS (fun (e7 : Int) (s5 : CS × (List EW)) => (m_law_word s5.1 x_writes 2).bind fun (r8 : Wd × CS) => (m_law_take r8.2 x_many).bind fun (r9 : Int × CS) => (m_law_take r9.2 (x_reads.length : Int)).bind fun (r10 : Int × CS) => (atI x_reads r10.1).bind fun (z11 : Nat) => (m_law_take r10.2 x_many).bind fun (r12 : Int × CS) => gd (s5.2.length < sizeLine) <| some (r12.2, (s5.2 ++ [(r9.1, [z11], r8.1, r12.1)]))) (rng 0 r3.1) (r3.2, v2)).bind fun (s6 : CS × (List EW)) => (m_law_take s6.1 2).bind fun (r14 : Int × CS) => gd (((1 + r14.1) : Int) ≤ sizeLine ∧ -(2 ^ 62) ≤ ((1 + r14.1) : Int)) <| (compO (fun (e16 : Int) (s19 : CS) => some true) (fun (e16 : Int) (s19 : CS) => (m_law_take s19 x_many).bind fun (r20 : Int × CS) => (m_law_word r20.2 x_writes 2).bind fun (r21 : Wd × CS) => some ((r20.1, r21.1), r21.2)) (rng 0 (1 + r14.1)) r14.2).bind fun (l22 : List PW × CS) => (m_law_take l22.2 3).bind fun (r23 : Int × CS) => gd (((1 + r23.1) : Int) ≤ sizeLine ∧ -(2 ^ 62) ≤ ((1 + r23.1) : Int)) <| (compO (fun (e25 : Int) (s28 : CS) => some true) (fun (e25 : Int) (s28 : CS) => (m_law_take s28 x_many).bind fun (r29 : Int × CS) => (m_law_word r29.2 x_writes 2).bind fun (r30 : Wd × CS) => some ((r29.1, r30.1), r30.2)) (rng 0 (1 + r23.1)) r23.2).bind fun (l31 : List PW × CS) => some ((x_many, l22.1, s6.2, l31.1), l31.2)

def m_law_lines (x_machine : Mach) : Option ((List (List Wd))) :=
  gd (x_machine.1.natAbs.log2 < 1920) <| lt (([([([115, 116, 97, 116, 101, 115] : Wd), strI x_machine.1] : List Wd)] : List (List Wd))) fun v3 => (compO (fun (e4 : PW) (s7 : Unit) => some true) (fun (e4 : PW) (s7 : Unit) => gd (e4.1.natAbs.log2 < 1920) <| (cnd (!decide (e4.2 = ([] : Wd))) ( some e4.2) ( some ([45] : Wd))).bind fun (y6 : Wd) => some (([([115, 116, 97, 114, 116] : Wd), strI e4.1, y6] : List Wd), ())) x_machine.2.1 ()).bind fun (l8 : List (List Wd) × Unit) => gd (v3.length + l8.1.length ≤ sizeLine) <| lt ((v3 ++ l8.1)) fun v11 => (forS (fun (e14 : EW) (s12 : (List (List Wd))) => gd (e14.1.natAbs.log2 < 1920) <| (cnd (!decide (e14.2.2.1 = ([] : Wd))) ( some e14.2.2.1) ( some ([45] : Wd))).bind fun (y16 : Wd) => gd (e14.2.2.2.natAbs.log2 < 1920) <| gd (s12.length < sizeLine) <| some (s12 ++ [([([101, 100, 103, 101] : Wd), strI e14.1, e14.2.1, y16, strI e14.2.2.2] : List Wd)])) x_machine.2.2.1 v11).bind fun (s13 : (List (List Wd))) => (compO (fun (e19 : PW) (s22 : Unit) => some true) (fun (e19 : PW) (s22 : Unit) => gd (e19.1.natAbs.log2 < 1920) <| (cnd (!decide (e19.2 = ([] : Wd))) ( some e19.2) ( some ([45] : Wd))).bind fun (y21 : Wd) => some (([([101, 110, 100] : Wd), strI e19.1, y21] : List Wd), ())) x_machine.2.2.2 ()).bind fun (l23 : List (List Wd) × Unit) => gd (s13.length + l23.1.length ≤ sizeLine) <| some (s13 ++ l23.1)

def m_law_text (x_c : CS) (x_lines : (List (List Wd))) : Option (Wd × CS) :=
  lt (([] : List Wd)) fun v2 => (forS (fun (e5 : (List Wd)) (s3 : CS × (List Wd)) => lt (([] : Wd)) fun v6 => (forS (fun (e9 : Wd) (s7 : Wd × CS) => (cnd (!decide (s7.1 = ([] : Wd))) ( some 1) ( some 0)).bind fun (y10 : Int) => (m_law_take s7.2 3).bind fun (r11 : Int × CS) => gd (([32] : Wd).length * ((y10 + r11.1) : Int).toNat ≤ 1000000 ∧ ((y10 + r11.1) : Int) ≤ 1000000 ∧ -1000000 ≤ ((y10 + r11.1) : Int)) <| gd (s7.1.length + ((List.replicate ((y10 + r11.1) : Int).toNat ([32] : Wd)).flatten).length ≤ sizeLine) <| gd ((s7.1 ++ (List.replicate ((y10 + r11.1) : Int).toNat ([32] : Wd)).flatten).length + e9.length ≤ sizeLine) <| lt (((s7.1 ++ (List.replicate ((y10 + r11.1) : Int).toNat ([32] : Wd)).flatten) ++ e9)) fun v15 => some (v15, r11.2)) e5 (v6, s3.1)).bind fun (s8 : Wd × CS) => (m_law_take s8.2 2).bind fun (r16 : Int × CS) => gd (([32] : Wd).length * (r16.1 : Int).toNat ≤ 1000000 ∧ (r16.1 : Int) ≤ 1000000 ∧ -1000000 ≤ (r16.1 : Int)) <| gd (s8.1.length + ((List.replicate (r16.1 : Int).toNat ([32] : Wd)).flatten).length ≤ sizeLine) <| gd (s3.2.length < sizeLine) <| some (r16.2, (s3.2 ++ [(s8.1 ++ (List.replicate (r16.1 : Int).toNat ([32] : Wd)).flatten)]))) x_lines (x_c, v2)).bind fun (s4 : CS × (List Wd)) => gd ((s4.2.map (·.length)).sum + s4.2.length * ([10] : Wd).length ≤ 16777216) <| (m_law_take s4.1 3).bind fun (r21 : Int × CS) => (atI ([([] : Wd), ([10] : Wd), ([10, 32, 10] : Wd)] : List Wd) r21.1).bind fun (x22 : Wd) => gd ((TL.joinL ([10] : Wd) s4.2).length + x22.length ≤ sizeLine) <| some ((TL.joinL ([10] : Wd) s4.2 ++ x22), r21.2)

def m_law_number (x_token : Wd) (x_most : Int) : Option ((Option Int)) :=
   cnd ((decide (x_token = ([] : Wd)) || (decide ((x_token.length : Int) > 4) || !((List.map (fun (e1 : Nat) => (decide (e1 ∈ ([48, 49, 50, 51, 52, 53, 54, 55, 56, 57] : Wd)))) x_token).all id)))) ( some none) ((cnd (decide ((x_token.length : Int) > 1)) ((atI x_token 0).bind fun (z3 : Nat) => some (decide ([z3] = ([48] : Wd)))) (some false)).bind fun (b4 : Bool) => (cnd (b4) (some true) ((intW x_token).bind fun (x6 : Int) => some (decide (x6 ≥ x_most)))).bind fun (b7 : Bool) => cnd (b7) ( some none) ((intW x_token).bind fun (x9 : Int) => some (some x9)))

def m_law_token (x_token : Wd) : Option ((Option Wd)) :=
   cnd (decide (x_token = ([45] : Wd))) ( some (some ([] : Wd))) ((cnd (((List.map (fun (e1 : Nat) => (decide (e1 ∈ ([97, 98, 99, 100, 101, 102, 103, 104, 105, 106, 107, 108, 109, 110, 111, 112, 113, 114, 115, 116, 117, 118, 119, 120, 121, 122] : Wd)))) x_token).all id)) ( some (some x_token)) ( some none)).bind fun (y3 : (Option Wd)) => some y3)

def m_law_line (x_tokens : (List Wd)) (x_many : Int) : Option (PyData) :=
  (cnd (decide ((x_tokens.length : Int) ∈ ([3, 5] : List Int))) ((cnd (decide ((x_tokens.length : Int) = 3)) ( some 2) ( some 3)).bind fun (y1 : Int) => (atI x_tokens y1).bind fun (x2 : Wd) => (m_law_token x2).bind fun (r3 : (Option Wd)) => some r3) ( some none)).bind fun (y4 : (Option Wd)) => (cnd (y4.isNone) (some true) ((atI x_tokens 1).bind fun (x5 : Wd) => (m_law_number x5 x_many).bind fun (r6 : (Option Int)) => some (r6.isNone))).bind fun (b7 : Bool) => cnd (b7) ( some ((fun _ => PyData.none) ())) ( cnd (decide ((x_tokens.length : Int) = 3)) ((atI x_tokens 0).bind fun (x9 : Wd) => (cnd (decide (x9 ∈ ([([115, 116, 97, 114, 116] : Wd), ([101, 110, 100] : Wd)] : List Wd))) ((atI x_tokens 1).bind fun (x10 : Wd) => (intW x10).bind fun (x11 : Int) => some ((c2 cI (cO cS)) (x11, y4))) ( some ((fun _ => PyData.none) ()))).bind fun (y12 : PyData) => some y12) ((atI x_tokens 2).bind fun (x13 : Wd) => (atI x_tokens 0).bind fun (x14 : Wd) => (cnd (!decide (x14 = ([101, 100, 103, 101] : Wd))) (some true) ((cnd (!decide ((x13.length : Int) = 1)) (some true) ((cnd (decide (x13 = ([45] : Wd))) (some true) ((m_law_token x13).bind fun (r15 : (Option Wd)) => some (r15.isNone))).bind fun (b16 : Bool) => some (b16))).bind fun (b18 : Bool) => some (b18))).bind fun (b20 : Bool) => cnd (b20) ( some ((fun _ => PyData.none) ())) ((atI x_tokens 4).bind fun (x22 : Wd) => (m_law_number x22 x_many).bind fun (r23 : (Option Int)) => (cnd (r23.isNone) ( some ((fun _ => PyData.none) ())) ((atI x_tokens 1).bind fun (x24 : Wd) => (intW x24).bind fun (x25 : Int) => (atI x_tokens 4).bind fun (x26 : Wd) => (intW x26).bind fun (x27 : Int) => some ((c4 cI cS (cO cS) cI) (x25, x13, y4, x27)))).bind fun (y28 : PyData) => some y28)))

def m_law_broken (x_c : CS) (x_lines : (List (List Wd))) : Option ((List (List Wd)) × CS) :=
  (m_law_take x_c (x_lines.length : Int)).bind fun (r1 : Int × CS) => (atI x_lines r1.1).bind fun (x2 : (List Wd)) => (m_law_take r1.2 8).bind fun (r3 : Int × CS) => cnd ((decide (r3.1 = 0) || !(!x2.isEmpty))) (gd ((cut x_lines none (some r1.1)).length + (cut x_lines (some (r1.1 + 1)) none).length ≤ sizeLine) <| some ((cut x_lines none (some r1.1) ++ cut x_lines (some (r1.1 + 1)) none), r3.2)) ( cnd (decide (r3.1 = 1)) ((m_law_take r3.2 (x_lines.length : Int)).bind fun (r5 : Int × CS) => gd ((cut x_lines none (some r1.1)).length + (cut (cut x_lines (some (r1.1 + 1)) none) none (some r5.1)).length ≤ sizeLine) <| gd ((cut x_lines none (some r1.1) ++ cut (cut x_lines (some (r1.1 + 1)) none) none (some r5.1)).length + ([x2] : List (List Wd)).length ≤ sizeLine) <| gd (((cut x_lines none (some r1.1) ++ cut (cut x_lines (some (r1.1 + 1)) none) none (some r5.1)) ++ ([x2] : List (List Wd))).length + (cut (cut x_lines (some (r1.1 + 1)) none) (some r5.1) none).length ≤ sizeLine) <| some ((((cut x_lines none (some r1.1) ++ cut (cut x_lines (some (r1.1 + 1)) none) none (some r5.1)) ++ ([x2] : List (List Wd))) ++ cut (cut x_lines (some (r1.1 + 1)) none) (some r5.1) none), r5.2)) ((m_law_take r3.2 ((x2.length : Int) + 1)).bind fun (r9 : Int × CS) => lt (([([48] : Wd), ([49] : Wd), ([51] : Wd), ([48, 55] : Wd), ([49, 50, 51, 52, 53] : Wd), ([57, 57, 57, 57] : Wd), ([45] : Wd), ([97] : Wd), ([97, 98] : Wd), ([65] : Wd), ([115, 116, 97, 116, 101, 115] : Wd), ([115, 116, 97, 114, 116] : Wd), ([101, 100, 103, 101] : Wd), ([101, 110, 100] : Wd), ([45, 45] : Wd), ([49, 97] : Wd)] : List Wd)) fun v10 => gd (v10.length + ([([9] : Wd), ([126] : Wd)] : List Wd).length ≤ sizeLine) <| lt ((v10 ++ ([([9] : Wd), ([126] : Wd)] : List Wd))) fun v12 => (m_law_take r9.2 (v12.length : Int)).bind fun (r13 : Int × CS) => (atI v12 r13.1).bind fun (x14 : Wd) => (cnd (decide (r3.1 < 4)) (gd ((cut x2 none (some r9.1)).length + ([x14] : List Wd).length ≤ sizeLine) <| gd ((cut x2 none (some r9.1) ++ ([x14] : List Wd)).length + (cut x2 (some r9.1) none).length ≤ sizeLine) <| lt (((cut x2 none (some r9.1) ++ ([x14] : List Wd)) ++ cut x2 (some r9.1) none)) fun v32 => some v32) ((cnd (decide (r3.1 < 6)) (gd ((cut x2 none (some r9.1)).length + (cut x2 (some (r9.1 + 1)) none).length ≤ sizeLine) <| lt ((cut x2 none (some r9.1) ++ cut x2 (some (r9.1 + 1)) none)) fun v40 => some v40) (gd ((cut x2 none (some r9.1)).length + ([x14] : List Wd).length ≤ sizeLine) <| gd ((cut x2 none (some r9.1) ++ ([x14] : List Wd)).length + (cut x2 (some (r9.1 + 1)) none).length ≤ sizeLine) <| lt (((cut x2 none (some r9.1) ++ ([x14] : List Wd)) ++ cut x2 (some (r9.1 + 1)) none)) fun v43 => some v43)).bind fun (j38 : (List Wd)) => some j38)).bind fun (j29 : (List Wd)) => gd ((cut x_lines none (some r1.1)).length + ([j29] : List (List Wd)).length ≤ sizeLine) <| gd ((cut x_lines none (some r1.1) ++ ([j29] : List (List Wd))).length + (cut x_lines (some (r1.1 + 1)) none).length ≤ sizeLine) <| some (((cut x_lines none (some r1.1) ++ ([j29] : List (List Wd))) ++ cut x_lines (some (r1.1 + 1)) none), r13.2)))

def m_law_is_state (x_value : PyData) (x_many : Int) : Option (Bool) :=
  (cnd ((isaInt (x_value))) ((cnd ((!(isaBool (x_value)))) ((asI x_value).bind fun (x1 : Int) => (cnd ((decide (x1 ≥ 0))) ((asI x_value).bind fun (x2 : Int) => some ((decide (x2 < x_many)))) (some false)).bind fun (b3 : Bool) => some (b3)) (some false)).bind fun (b5 : Bool) => some (b5)) (some false)).bind fun (b7 : Bool) => some b7

def m_law_is_row (x_row : PyData) (x_many : Int) (x_size : Int) : Option (Bool) :=
  (cnd (!(isaTuple (x_row))) (some true) ((asT x_row).bind fun (x1 : (List PyData)) => (cnd (!decide ((x1.length : Int) = x_size)) (some true) ((asT x_row).bind fun (x2 : (List PyData)) => (atI x2 0).bind fun (x3 : PyData) => (m_law_is_state x3 x_many).bind fun (r4 : Bool) => some (!r4))).bind fun (b5 : Bool) => some (b5))).bind fun (b7 : Bool) => cnd (b7) ( some false) ((cnd (decide (x_size = 2)) ((asT x_row).bind fun (x9 : (List PyData)) => (atI x9 1).bind fun (x10 : PyData) => some ([x10] : List PyData)) ((asT x_row).bind fun (x11 : (List PyData)) => (atI x11 1).bind fun (x12 : PyData) => (asT x_row).bind fun (x13 : (List PyData)) => (atI x13 2).bind fun (x14 : PyData) => some ([x12, x14] : List PyData))).bind fun (y15 : (List PyData)) => (forC (fun (e18 : PyData) (s16 : Unit) => (cnd (!(isaStr (e18))) (some true) ((asS e18).bind fun (x19 : Wd) => some (!((List.map (fun (e20 : Nat) => (decide (e20 ∈ ([97, 98, 99, 100, 101, 102, 103, 104, 105, 106, 107, 108, 109, 110, 111, 112, 113, 114, 115, 116, 117, 118, 119, 120, 121, 122] : Wd)))) x19).all id)))).bind fun (b22 : Bool) => cnd (b22) ( some (.rt false)) ( some (.nx ()))) y15 () : Option (Ctl (Unit) (Bool))).bind fun | .nx s17 => ((cnd ((decide (x_size = 2))) (some true) ((asT x_row).bind fun (x26 : (List PyData)) => (atI x26 1).bind fun (x27 : PyData) => (asS x27).bind fun (x28 : Wd) => (cnd ((decide ((x28.length : Int) = 1))) ((asT x_row).bind fun (x29 : (List PyData)) => (atI x29 3).bind fun (x30 : PyData) => (m_law_is_state x30 x_many).bind fun (r31 : Bool) => some (r31)) (some false)).bind fun (b32 : Bool) => some (b32))).bind fun (b34 : Bool) => some b34) | .bk _ => none | .rt q36 => some q36)

def m_law_is_machine (x_value : PyData) : Option (Bool) :=
  (cnd (!(isaTuple (x_value))) (some true) ((asT x_value).bind fun (x1 : (List PyData)) => (cnd (!decide ((x1.length : Int) = 4)) (some true) ((asT x_value).bind fun (x2 : (List PyData)) => (atI x2 0).bind fun (x3 : PyData) => (m_law_is_state x3 (10 ^ 9)).bind fun (r4 : Bool) => some (!r4))).bind fun (b5 : Bool) => some (b5))).bind fun (b7 : Bool) => cnd (b7) ( some false) (gd (-sizeLine ≤ (1 : Int) ∧ (1 : Int) ≤ sizeLine ∧ -sizeLine ≤ (4 : Int) ∧ (4 : Int) ≤ sizeLine ∧ (4 : Int) - (1 : Int) ≤ sizeLine) <| (forC (fun (e12 : Int) (s10 : Unit) => (asT x_value).bind fun (x13 : (List PyData)) => (atI x13 e12).bind fun (x14 : PyData) => cnd (!(isaTuple (x14))) ( some (.rt false)) ((asT x_value).bind fun (x15 : (List PyData)) => (atI x15 e12).bind fun (x16 : PyData) => (asT x16).bind fun (x17 : (List PyData)) => (compO (fun (e18 : PyData) (s24 : Unit) => some true) (fun (e18 : PyData) (s24 : Unit) => (asT x_value).bind fun (x19 : (List PyData)) => (atI x19 0).bind fun (x20 : PyData) => (asI x20).bind fun (x21 : Int) => (cnd (decide (e12 = 2)) ( some 4) ( some 2)).bind fun (y22 : Int) => (m_law_is_row e18 x21 y22).bind fun (r23 : Bool) => some (r23, ())) x17 ()).bind fun (l25 : List Bool × Unit) => cnd (!(l25.1.all id)) ( some (.rt false)) ((asT x_value).bind fun (x26 : (List PyData)) => (atI x26 e12).bind fun (x27 : PyData) => (asT x_value).bind fun (x28 : (List PyData)) => (atI x28 e12).bind fun (x29 : PyData) => (m_law_once_P x29).bind fun (r30 : (List PyData)) => gd (PyData.depth (x27) ≤ 64) <| gd (PyData.depth ((cT cP) r30) ≤ 64) <| cnd (!PyData.eqv (x27) ((cT cP) r30)) ( some (.rt false)) ( some (.nx ()))))) (rng 1 4) () : Option (Ctl (Unit) (Bool))).bind fun | .nx s11 => ( some true) | .bk _ => none | .rt q35 => some q35)

def m_law_bent (x_c : CS) (x_machine : Mach) : Option (PyData × CS) :=
  lt ([cI x_machine.1, (cT cPW) x_machine.2.1, (cT cEW) x_machine.2.2.1, (cT cPW) x_machine.2.2.2]) fun v2 => (m_law_take x_c 3).bind fun (r3 : Int × CS) => lt ((1 + r3.1)) fun v4 => (atI v2 v4).bind fun (x5 : PyData) => (asT x5).bind fun (x6 : (List PyData)) => (m_law_take r3.2 7).bind fun (r8 : Int × CS) => cnd (decide (r8.1 = 0)) ((m_law_take r8.2 7).bind fun (r9 : Int × CS) => (atI ([((fun _ => PyData.none) ()), (cB true), ((fun _ => PyData.tuple []) ()), ((c3 cI (cT cPW) (cT cEW)) (x_machine.1, x_machine.2.1, x_machine.2.2.1)), ((c5 cI (cT cPW) (cT cEW) (cT cPW) (fun _ => PyData.tuple [])) (x_machine.1, x_machine.2.1, x_machine.2.2.1, x_machine.2.2.2, ())), (cS ([109, 97, 99, 104, 105, 110, 101] : Wd)), ((c4 cI (fun _ => PyData.tuple []) (fun _ => PyData.tuple []) (fun _ => PyData.tuple [])) ((0 - 1), (), (), ()))] : List PyData) r9.1).bind fun (x10 : PyData) => some (x10, r9.2)) ((cnd (decide (r8.1 = 1)) ((atI v2 0).bind fun (x393 : PyData) => (asI x393).bind fun (x394 : Int) => (atI v2 0).bind fun (x395 : PyData) => (asI x395).bind fun (x396 : Int) => gd (x396.natAbs.log2 < 1920) <| (atI v2 0).bind fun (x398 : PyData) => (asI x398).bind fun (x399 : Int) => (m_law_take r8.2 5).bind fun (r400 : Int × CS) => (atI ([(cB true), (cI (x394 - 1)), (cS (strI x396)), (cI (x399 + 1)), ((fun _ => PyData.none) ())] : List PyData) r400.1).bind fun (x401 : PyData) => (setI v2 0 x401).bind fun (x402 : List PyData) => some (r400.2, x402)) ((cnd (decide (r8.1 = 2)) ((setI v2 v4 ((cL cP) x6)).bind fun (x589 : List PyData) => some (r8.2, x589)) ((cnd (!x6.isEmpty) ((m_law_take r8.2 (x6.length : Int)).bind fun (r683 : Int × CS) => (atI x6 r683.1).bind fun (x684 : PyData) => (asT x684).bind fun (x685 : (List PyData)) => (cnd (decide (r8.1 = 3)) ((atI x6 r683.1).bind fun (x731 : PyData) => gd (x6.length < sizeLine) <| some (r683.2, x685, (x6 ++ [x731]))) ((cnd (decide (r8.1 = 4)) ((m_law_take r683.2 8).bind fun (r754 : Int × CS) => (atI ([(cB true), (cS ([] : Wd)), (cS ([65] : Wd)), (cS ([97, 98] : Wd)), (cI (0 - 1)), ((fun _ => PyData.none) ()), (cI 99), (cS ([126] : Wd))] : List PyData) r754.1).bind fun (x755 : PyData) => (m_law_take r754.2 (x685.length : Int)).bind fun (r756 : Int × CS) => (setI x685 r756.1 x755).bind fun (x757 : List PyData) => (setI x6 r683.1 ((cT cP) x757)).bind fun (x758 : List PyData) => some (r756.2, x757, x758)) ((cnd (decide (r8.1 = 5)) ( some (r683.2, x6.reverse)) ((atI x685 0).bind fun (x768 : PyData) => gd (x685.length + (List.map cI ([0] : List Int)).length ≤ sizeLine) <| (m_law_take r683.2 3).bind fun (r770 : Int × CS) => (atI ([x768, ((cT cP) (cut x685 none (some (0 - 1)))), ((cT cP) (x685 ++ (List.map cI ([0] : List Int))))] : List PyData) r770.1).bind fun (x771 : PyData) => (setI x6 r683.1 x771).bind fun (x772 : List PyData) => some (r770.2, x772))).bind fun (j765 : CS × (List PyData)) => some (j765.1, x685, j765.2))).bind fun (j752 : CS × (List PyData) × (List PyData)) => some j752)).bind fun (j729 : CS × (List PyData) × (List PyData)) => (setI v2 v4 ((cT cP) j729.2.2)).bind fun (x773 : List PyData) => some (j729.1, x773, j729.2.2)) ( some (r8.2, v2, x6))).bind fun (j681 : CS × (List PyData) × (List PyData)) => some (j681.1, j681.2.1))).bind fun (j588 : CS × (List PyData)) => some j588)).bind fun (j392 : CS × (List PyData)) => some (((cT cP) j392.2), j392.1))

def m_is_word (x_value : PyData) : Option (Bool) :=
  (cnd ((isaStr (x_value))) ((asS x_value).bind fun (x1 : Wd) => some (((List.map (fun (e2 : Nat) => (decide (e2 ∈ ([97, 98, 99, 100, 101, 102, 103, 104, 105, 106, 107, 108, 109, 110, 111, 112, 113, 114, 115, 116, 117, 118, 119, 120, 121, 122] : Wd)))) x1).all id))) (some false)).bind fun (b4 : Bool) => some b4

def m_shown (x_word : Wd) : Option (Wd) :=
  (cnd (!decide (x_word = ([] : Wd))) ( some x_word) ( some ([45] : Wd))).bind fun (y1 : Wd) => some y1

def m_show (x_machine : Mach) : Option (Wd) :=
  gd (x_machine.1.natAbs.log2 < 1920) <| gd (([115, 116, 97, 116, 101, 115, 32] : Wd).length + (strI x_machine.1).length ≤ sizeLine) <| lt (([(([115, 116, 97, 116, 101, 115, 32] : Wd) ++ strI x_machine.1)] : List Wd)) fun v4 => (compO (fun (e5 : PW) (s11 : Unit) => some true) (fun (e5 : PW) (s11 : Unit) => gd (e5.1.natAbs.log2 < 1920) <| gd (([115, 116, 97, 114, 116, 32] : Wd).length + (strI e5.1).length ≤ sizeLine) <| gd ((([115, 116, 97, 114, 116, 32] : Wd) ++ strI e5.1).length + ([32] : Wd).length ≤ sizeLine) <| (m_shown e5.2).bind fun (r9 : Wd) => gd (((([115, 116, 97, 114, 116, 32] : Wd) ++ strI e5.1) ++ ([32] : Wd)).length + r9.length ≤ sizeLine) <| some ((((([115, 116, 97, 114, 116, 32] : Wd) ++ strI e5.1) ++ ([32] : Wd)) ++ r9), ())) x_machine.2.1 ()).bind fun (l12 : List Wd × Unit) => gd (v4.length + l12.1.length ≤ sizeLine) <| (forS (fun (e16 : EW) (s14 : (List Wd)) => gd (e16.1.natAbs.log2 < 1920) <| (m_shown e16.2.2.1).bind fun (r18 : Wd) => gd (e16.2.2.2.natAbs.log2 < 1920) <| gd ((([([101, 100, 103, 101] : Wd), strI e16.1, e16.2.1, r18, strI e16.2.2.2] : List Wd).map (·.length)).sum + ([([101, 100, 103, 101] : Wd), strI e16.1, e16.2.1, r18, strI e16.2.2.2] : List Wd).length * ([32] : Wd).length ≤ 16777216) <| gd (s14.length < sizeLine) <| some (s14 ++ [TL.joinL ([32] : Wd) ([([101, 100, 103, 101] : Wd), strI e16.1, e16.2.1, r18, strI e16.2.2.2] : List Wd)])) x_machine.2.2.1 (v4 ++ l12.1)).bind fun (s15 : (List Wd)) => (compO (fun (e22 : PW) (s28 : Unit) => some true) (fun (e22 : PW) (s28 : Unit) => gd (e22.1.natAbs.log2 < 1920) <| gd (([101, 110, 100, 32] : Wd).length + (strI e22.1).length ≤ sizeLine) <| gd ((([101, 110, 100, 32] : Wd) ++ strI e22.1).length + ([32] : Wd).length ≤ sizeLine) <| (m_shown e22.2).bind fun (r26 : Wd) => gd (((([101, 110, 100, 32] : Wd) ++ strI e22.1) ++ ([32] : Wd)).length + r26.length ≤ sizeLine) <| some ((((([101, 110, 100, 32] : Wd) ++ strI e22.1) ++ ([32] : Wd)) ++ r26), ())) x_machine.2.2.2 ()).bind fun (l29 : List Wd × Unit) => gd (s15.length + l29.1.length ≤ sizeLine) <| (compO (fun (e31 : Wd) (s33 : Unit) => some true) (fun (e31 : Wd) (s33 : Unit) => gd (e31.length + ([10] : Wd).length ≤ sizeLine) <| some ((e31 ++ ([10] : Wd)), ())) (s15 ++ l29.1) ()).bind fun (l34 : List Wd × Unit) => gd ((l34.1.map (·.length)).sum + l34.1.length * ([] : Wd).length ≤ 16777216) <| some (TL.joinL ([] : Wd) l34.1)

def m_number_of (x_token : Wd) : Option ((Option Int)) :=
   cnd ((!(decide (1 ≤ (x_token.length : Int)) && decide ((x_token.length : Int) ≤ 4)) || !((List.map (fun (e1 : Nat) => (decide (e1 ∈ ([48, 49, 50, 51, 52, 53, 54, 55, 56, 57] : Wd)))) x_token).all id))) ( some none) ((cnd (decide ((x_token.length : Int) = 1)) (some true) ((atI x_token 0).bind fun (z3 : Nat) => some (!decide ([z3] = ([48] : Wd))))).bind fun (b4 : Bool) => (cnd (b4) ((intW x_token).bind fun (x6 : Int) => some (some x6)) ( some none)).bind fun (y7 : (Option Int)) => some y7)

def m_word_of (x_token : Wd) : Option ((Option Wd)) :=
   cnd (decide (x_token = ([45] : Wd))) ( some (some ([] : Wd))) ((m_is_word (cS x_token)).bind fun (r1 : Bool) => (cnd (r1) ( some (some x_token)) ( some none)).bind fun (y2 : (Option Wd)) => some y2)

def m_pair_of (x_tokens : (List Wd)) (x_many : Int) : Option ((Option PW)) :=
   cnd (!decide ((x_tokens.length : Int) = 2)) ( some none) ((atI x_tokens 0).bind fun (x1 : Wd) => (m_number_of x1).bind fun (r2 : (Option Int)) => (atI x_tokens 1).bind fun (x3 : Wd) => (m_word_of x3).bind fun (r4 : (Option Wd)) => (cnd (r2.isNone) (some true) ((cnd (r4.isNone) (some true) ((r2).bind fun (x5 : Int) => some (decide (x5 ≥ x_many)))).bind fun (b6 : Bool) => some (b6))).bind fun (b8 : Bool) => (cnd (b8) ( some none) ((r2).bind fun (x10 : Int) => (r4).bind fun (x11 : Wd) => some (some (x10, x11)))).bind fun (y12 : (Option PW)) => some y12)

def m_edge_of (x_tokens : (List Wd)) (x_many : Int) : Option ((Option EW)) :=
  (cnd (!decide ((x_tokens.length : Int) = 4)) (some true) ((atI x_tokens 1).bind fun (x1 : Wd) => (cnd (!decide ((x1.length : Int) = 1)) (some true) ((atI x_tokens 1).bind fun (x2 : Wd) => (oneW x2).bind fun (z3 : Nat) => some (!decide (z3 ∈ ([97, 98, 99, 100, 101, 102, 103, 104, 105, 106, 107, 108, 109, 110, 111, 112, 113, 114, 115, 116, 117, 118, 119, 120, 121, 122] : Wd))))).bind fun (b4 : Bool) => some (b4))).bind fun (b6 : Bool) => cnd (b6) ( some none) ((atI x_tokens 0).bind fun (x8 : Wd) => (m_number_of x8).bind fun (r9 : (Option Int)) => (atI x_tokens 2).bind fun (x10 : Wd) => (m_word_of x10).bind fun (r11 : (Option Wd)) => (atI x_tokens 3).bind fun (x12 : Wd) => (m_number_of x12).bind fun (r13 : (Option Int)) => (cnd (r9.isNone) (some true) ((cnd (r11.isNone) (some true) ((cnd (r13.isNone) (some true) ((r9).bind fun (x14 : Int) => (cnd (decide (x14 ≥ x_many)) (some true) ((r13).bind fun (x15 : Int) => some (decide (x15 ≥ x_many)))).bind fun (b16 : Bool) => some (b16))).bind fun (b18 : Bool) => some (b18))).bind fun (b20 : Bool) => some (b20))).bind fun (b22 : Bool) => cnd (b22) ( some none) ((r9).bind fun (x24 : Int) => (atI x_tokens 1).bind fun (x25 : Wd) => (r11).bind fun (x26 : Wd) => (r13).bind fun (x27 : Int) => some (some (x24, x25, x26, x27))))

def m_read (x_text : Wd) : Option (PyData ⊕ Int) :=
  gd (x_text.length + 2 ≤ sizeLine) <| (forC (fun (e7 : PW) (s5 : (Option Int) × (List (List Key)) × (List (List Key)) × (List (List Key))) => gd (e7.2.length + 2 ≤ sizeLine) <| lt (List.map (fun (e9 : Wd) => e9) (List.filter (fun (e9 : Wd) => !decide (e9 = ([] : Wd))) (TL.spl ([32] : Wd) 0 [] e7.2))) fun v11 => cnd (!(!v11.isEmpty)) ( some (.nx s5)) ((cnd (s5.1.isNone) ((atI v11 0).bind fun (x34 : Wd) => (cnd ((decide (x34 = ([115, 116, 97, 116, 101, 115] : Wd)) && decide ((v11.length : Int) = 2))) ((atI v11 1).bind fun (x35 : Wd) => (m_number_of x35).bind fun (r36 : (Option Int)) => some r36) ( some none)).bind fun (y37 : (Option Int)) => lt (((cO cI) y37)) fun v38 => some (y37, v38)) ((atI v11 0).bind fun (x39 : Wd) => (cnd (decide (x39 = ([101, 100, 103, 101] : Wd))) ((s5.1).bind fun (x48 : Int) => (m_edge_of (cut v11 (some 1) none) x48).bind fun (r49 : (Option EW)) => lt (((cO cEW) r49)) fun v50 => some v50) ((atI v11 0).bind fun (x51 : Wd) => (cnd (decide (x51 ∈ ([([115, 116, 97, 114, 116] : Wd), ([101, 110, 100] : Wd)] : List Wd))) ((s5.1).bind fun (x52 : Int) => (m_pair_of (cut v11 (some 1) none) x52).bind fun (r53 : (Option PW)) => some ((cO cPW) r53)) ( some ((fun _ => PyData.none) ()))).bind fun (y54 : PyData) => some y54)).bind fun (j47 : PyData) => some (s5.1, j47))).bind fun (j33 : (Option Int) × PyData) => cnd (isN j33.2) ( some (.rt (.inr e7.1))) ((atI v11 0).bind fun (x55 : Wd) => cnd (decide (x55 ∈ ([([115, 116, 97, 114, 116] : Wd), ([101, 100, 103, 101] : Wd), ([101, 110, 100] : Wd)] : List Wd))) ((atI v11 0).bind fun (x56 : Wd) => (keyT (j33.2)).bind fun (k57 : List Key) => cnd (decide (x56 = ([115, 116, 97, 114, 116] : Wd))) (gd (s5.2.1.length < sizeLine) <| some (.nx (j33.1, (insK s5.2.1 k57), s5.2.2.1, s5.2.2.2))) (cnd (decide (x56 = ([101, 100, 103, 101] : Wd))) (gd (s5.2.2.1.length < sizeLine) <| some (.nx (j33.1, s5.2.1, (insK s5.2.2.1 k57), s5.2.2.2))) (cnd (decide (x56 = ([101, 110, 100] : Wd))) (gd (s5.2.2.2.length < sizeLine) <| some (.nx (j33.1, s5.2.1, s5.2.2.1, (insK s5.2.2.2 k57)))) (none)))) ( some (.nx (j33.1, s5.2.1, s5.2.2.1, s5.2.2.2)))))) (enm 1 (TL.spl ([10] : Wd) 0 [] x_text)) (none, [], [], []) : Option (Ctl ((Option Int) × (List (List Key)) × (List (List Key)) × (List (List Key))) (PyData ⊕ Int))).bind fun | .nx s6 => ( cnd (s6.1.isNone) ( some (.inr 1)) ((compO (fun (e62 : Wd) (s64 : Unit) => some true) (fun (e62 : Wd) (s64 : Unit) => (cnd (decide (e62 = ([115, 116, 97, 114, 116] : Wd))) (sortP (List.map keyD s6.2.1)) (cnd (decide (e62 = ([101, 100, 103, 101] : Wd))) (sortP (List.map keyD s6.2.2.1)) (cnd (decide (e62 = ([101, 110, 100] : Wd))) (sortP (List.map keyD s6.2.2.2)) none))).bind fun (x63 : (List PyData)) => some (x63, ())) ([([115, 116, 97, 114, 116] : Wd), ([101, 100, 103, 101] : Wd), ([101, 110, 100] : Wd)] : List Wd) ()).bind fun (l65 : List (List PyData) × Unit) => gd (([(cO cI) s6.1] : List PyData).length + (List.map (cT cP) l65.1 : List PyData).length ≤ sizeLine) <| some (.inl (PyData.tuple ([(cO cI) s6.1] ++ List.map (cT cP) l65.1))))) | .bk _ => none | .rt q67 => some q67

def m_law_due (x_text : Wd) : Option (PyData) :=
  gd (x_text.length + 2 ≤ sizeLine) <| lt (TL.spl ([10] : Wd) 0 [] x_text) fun v5 => gd (((v5.length : Int) : Int) ≤ sizeLine ∧ -(2 ^ 62) ≤ ((v5.length : Int) : Int)) <| (forC (fun (e9 : Int) (s7 : (Option Int) × (List PyData) × (List PyData) × (List PyData)) => (atI v5 e9).bind fun (x10 : Wd) => gd (x10.length + 2 ≤ sizeLine) <| lt (List.map (fun (e12 : Wd) => e12) (List.filter (fun (e12 : Wd) => !decide (e12 = ([] : Wd))) (TL.spl ([32] : Wd) 0 [] x10))) fun v14 => cnd ((!v14.isEmpty && s7.1.isNone)) ((cnd (!decide ((v14.length : Int) = 2)) (some true) ((atI v14 0).bind fun (x15 : Wd) => (cnd (!decide (x15 = ([115, 116, 97, 116, 101, 115] : Wd))) (some true) ((atI v14 1).bind fun (x16 : Wd) => (m_law_number x16 10000).bind fun (r17 : (Option Int)) => some (r17.isNone))).bind fun (b18 : Bool) => some (b18))).bind fun (b20 : Bool) => cnd (b20) ( some (.rt (cI (e9 + 1)))) ((atI v14 1).bind fun (x22 : Wd) => (intW x22).bind fun (x23 : Int) => lt (some x23) fun v24 => some (.nx (v24, s7.2.1, s7.2.2.1, s7.2.2.2)))) ( cnd (!v14.isEmpty) ((s7.1).bind fun (x25 : Int) => (m_law_line v14 x25).bind fun (r26 : PyData) => cnd (isN r26) ( some (.rt (cI (e9 + 1)))) ((atI v14 0).bind fun (x27 : Wd) => (indexW ([([115, 116, 97, 114, 116] : Wd), ([101, 100, 103, 101] : Wd), ([101, 110, 100] : Wd)] : List Wd) x27).bind fun (x28 : Int) => cnd (decide (x28 = 0)) (gd (s7.2.1.length < sizeLine) <| some (.nx (s7.1, (s7.2.1 ++ [r26]), s7.2.2.1, s7.2.2.2))) (cnd (decide (x28 = 1)) (gd (s7.2.2.1.length < sizeLine) <| some (.nx (s7.1, s7.2.1, (s7.2.2.1 ++ [r26]), s7.2.2.2))) (cnd (decide (x28 = 2)) (gd (s7.2.2.2.length < sizeLine) <| some (.nx (s7.1, s7.2.1, s7.2.2.1, (s7.2.2.2 ++ [r26])))) (none))))) ( some (.nx s7)))) (rng 0 (v5.length : Int)) (none, ([] : List PyData), ([] : List PyData), ([] : List PyData)) : Option (Ctl ((Option Int) × (List PyData) × (List PyData) × (List PyData)) (PyData))).bind fun | .nx s8 => ((cnd (s8.1.isNone) ( some (cI 1)) ((m_law_once_L s8.2.1).bind fun (r34 : (List PyData)) => (m_law_once_L s8.2.2.1).bind fun (r35 : (List PyData)) => (m_law_once_L s8.2.2.2).bind fun (r36 : (List PyData)) => some ((c4 (cO cI) (cT cP) (cT cP) (cT cP)) (s8.1, r34, r35, r36)))).bind fun (y37 : PyData) => some y37) | .bk _ => none | .rt q38 => some q38

def m_is_integer (x_value : PyData) : Option (Bool) :=
   some ((isaInt (x_value)) && (!(isaBool (x_value))))

def m_is_ascending (x_values : (List PyData)) : Option (Bool) :=
  (compO (fun (e1 : (PyData × PyData)) (s3 : Unit) => some true) (fun (e1 : (PyData × PyData)) (s3 : Unit) => (ltP e1.1 e1.2).bind fun (b2 : Bool) => some ((b2), ())) ((x_values).zip (cut x_values (some 1) none)) ()).bind fun (l4 : List Bool × Unit) => some (l4.1.all id)

def m_is_state (x_value : PyData) (x_many : Int) : Option (Bool) :=
  (m_is_integer x_value).bind fun (r1 : Bool) => (cnd (r1) ((asI x_value).bind fun (x2 : Int) => some ((decide (0 ≤ x2) && decide (x2 < x_many)))) (some false)).bind fun (b3 : Bool) => some b3

def m_are_pairs (x_value : PyData) (x_many : Int) : Option (Bool) :=
   cnd (!(isaTuple (x_value))) ( some false) ((asT x_value).bind fun (x1 : (List PyData)) => (forC (fun (e4 : PyData) (s2 : Unit) => (cnd (!(isaTuple (e4))) (some true) ((asT e4).bind fun (x5 : (List PyData)) => (cnd (!decide ((x5.length : Int) = 2)) (some true) ((asT e4).bind fun (x6 : (List PyData)) => (atI x6 0).bind fun (x7 : PyData) => (m_is_state x7 x_many).bind fun (r8 : Bool) => (cnd (!r8) (some true) ((asT e4).bind fun (x9 : (List PyData)) => (atI x9 1).bind fun (x10 : PyData) => (m_is_word x10).bind fun (r11 : Bool) => some (!r11))).bind fun (b12 : Bool) => some (b12))).bind fun (b14 : Bool) => some (b14))).bind fun (b16 : Bool) => cnd (b16) ( some (.rt false)) ( some (.nx ()))) x1 () : Option (Ctl (Unit) (Bool))).bind fun | .nx s3 => ((asT x_value).bind fun (x20 : (List PyData)) => (m_is_ascending x20).bind fun (r21 : Bool) => some r21) | .bk _ => none | .rt q22 => some q22)

def m_are_edges (x_value : PyData) (x_many : Int) : Option (Bool) :=
   cnd (!(isaTuple (x_value))) ( some false) ((asT x_value).bind fun (x1 : (List PyData)) => (forC (fun (e4 : PyData) (s2 : Unit) => (cnd (!(isaTuple (e4))) (some true) ((asT e4).bind fun (x5 : (List PyData)) => (cnd (!decide ((x5.length : Int) = 4)) (some true) ((asT e4).bind fun (x6 : (List PyData)) => (atI x6 0).bind fun (x7 : PyData) => (m_is_state x7 x_many).bind fun (r8 : Bool) => (cnd (!r8) (some true) ((asT e4).bind fun (x9 : (List PyData)) => (atI x9 3).bind fun (x10 : PyData) => (m_is_state x10 x_many).bind fun (r11 : Bool) => some (!r11))).bind fun (b12 : Bool) => some (b12))).bind fun (b14 : Bool) => some (b14))).bind fun (b16 : Bool) => cnd (b16) ( some (.rt false)) ((asT e4).bind fun (x18 : (List PyData)) => (atI x18 1).bind fun (x19 : PyData) => (m_is_word x19).bind fun (r20 : Bool) => (cnd (!r20) (some true) ((asT e4).bind fun (x21 : (List PyData)) => (atI x21 1).bind fun (x22 : PyData) => (asS x22).bind fun (x23 : Wd) => (cnd (!decide ((x23.length : Int) = 1)) (some true) ((asT e4).bind fun (x24 : (List PyData)) => (atI x24 2).bind fun (x25 : PyData) => (m_is_word x25).bind fun (r26 : Bool) => some (!r26))).bind fun (b27 : Bool) => some (b27))).bind fun (b29 : Bool) => cnd (b29) ( some (.rt false)) ( some (.nx ())))) x1 () : Option (Ctl (Unit) (Bool))).bind fun | .nx s3 => ((asT x_value).bind fun (x33 : (List PyData)) => (m_is_ascending x33).bind fun (r34 : Bool) => some r34) | .bk _ => none | .rt q35 => some q35)

def m_is_machine (x_value : PyData) : Option (Bool) :=
  (cnd (!(isaTuple (x_value))) (some true) ((asT x_value).bind fun (x1 : (List PyData)) => (cnd (!decide ((x1.length : Int) = 4)) (some true) ((asT x_value).bind fun (x2 : (List PyData)) => (atI x2 0).bind fun (x3 : PyData) => (m_is_integer x3).bind fun (r4 : Bool) => (cnd (!r4) (some true) ((asT x_value).bind fun (x5 : (List PyData)) => (atI x5 0).bind fun (x6 : PyData) => (asI x6).bind fun (x7 : Int) => some (decide (x7 < 0)))).bind fun (b8 : Bool) => some (b8))).bind fun (b10 : Bool) => some (b10))).bind fun (b12 : Bool) => cnd (b12) ( some false) ((asT x_value).bind fun (x14 : (List PyData)) => (atI x14 1).bind fun (x15 : PyData) => (asT x_value).bind fun (x16 : (List PyData)) => (atI x16 0).bind fun (x17 : PyData) => (asI x17).bind fun (x18 : Int) => (m_are_pairs x15 x18).bind fun (r19 : Bool) => (cnd (r19) ((asT x_value).bind fun (x20 : (List PyData)) => (atI x20 2).bind fun (x21 : PyData) => (asT x_value).bind fun (x22 : (List PyData)) => (atI x22 0).bind fun (x23 : PyData) => (asI x23).bind fun (x24 : Int) => (m_are_edges x21 x24).bind fun (r25 : Bool) => (cnd (r25) ((asT x_value).bind fun (x26 : (List PyData)) => (atI x26 3).bind fun (x27 : PyData) => (asT x_value).bind fun (x28 : (List PyData)) => (atI x28 0).bind fun (x29 : PyData) => (asI x29).bind fun (x30 : Int) => (m_are_pairs x27 x30).bind fun (r31 : Bool) => some (r31)) (some false)).bind fun (b32 : Bool) => some (b32)) (some false)).bind fun (b34 : Bool) => some b34)

def m_law (x_script : (List Int)) : Option (Bool) :=
  (m_law_start x_script).bind fun (r1 : CS) => (m_law_take r1 12).bind fun (r3 : Int × CS) => lt ((1 + r3.1)) fun v4 => (m_law_take r3.2 2).bind fun (r5 : Int × CS) => (atI ([([120, 121] : Wd), ([97, 122] : Wd)] : List Wd) r5.1).bind fun (x6 : Wd) => (m_law_drawn r5.2 ([97, 98, 122] : Wd) x6 v4).bind fun (r7 : Parts × CS) => (m_law_machine r7.2 r7.1).bind fun (r8 : Mach × CS) => (m_law_take r8.2 9).bind fun (r9 : Int × CS) => (cnd (decide (r9.1 = 0)) ((m_law_take r9.2 3).bind fun (r13 : Int × CS) => lt ((r13.1, ([] : List PW), ([] : List EW), ([] : List PW))) fun v14 => some (v14, r13.2)) ( some (r8.1, r9.2))).bind fun (j12 : Mach × CS) => (m_law_lines j12.1).bind fun (r15 : (List (List Wd))) => (compO (fun (e16 : (List Wd)) (s19 : Unit) => some true) (fun (e16 : (List Wd)) (s19 : Unit) => gd ((e16.map (·.length)).sum + e16.length * ([32] : Wd).length ≤ 16777216) <| gd ((TL.joinL ([32] : Wd) e16).length + ([10] : Wd).length ≤ sizeLine) <| some ((TL.joinL ([32] : Wd) e16 ++ ([10] : Wd)), ())) r15 ()).bind fun (l20 : List Wd × Unit) => gd ((l20.1.map (·.length)).sum + l20.1.length * ([] : Wd).length ≤ 16777216) <| lt (TL.joinL ([] : Wd) l20.1) fun v22 => (m_show j12.1).bind fun (r23 : Wd) => (reprW (cS r23)).bind fun (x24 : Wd) => (reprW (cS v22)).bind fun (x25 : Wd) => (cnd (!decide (x24 = x25)) (some true) ((okX (m_read v22)).bind fun (r26 : PyData) => (reprW (r26)).bind fun (x27 : Wd) => (reprW (cMach j12.1)).bind fun (x28 : Wd) => some (!decide (x27 = x28)))).bind fun (b29 : Bool) => cnd (b29) ( some false) ((m_law_take j12.2 3).bind fun (r31 : Int × CS) => gd ((cut r15 (some 1) none).length + (cut (cut r15 (some 1) none) none (some r31.1)).length ≤ sizeLine) <| (m_law_take r31.2 3).bind fun (r33 : Int × CS) => gd (-(2 ^ 63) ≤ (r33.1 : Int) ∧ (r33.1 : Int) < 2 ^ 63 ∧ ([([] : List Wd)] : List (List Wd)).length * (r33.1 : Int).toNat ≤ sizeLine) <| gd ((cut r15 (some 1) none ++ cut (cut r15 (some 1) none) none (some r31.1)).length + ((List.replicate (r33.1 : Int).toNat ([([] : List Wd)] : List (List Wd))).flatten).length ≤ sizeLine) <| (m_law_shuffled_W r33.2 ((cut r15 (some 1) none ++ cut (cut r15 (some 1) none) none (some r31.1)) ++ (List.replicate (r33.1 : Int).toNat ([([] : List Wd)] : List (List Wd))).flatten)).bind fun (r36 : (List (List Wd)) × CS) => gd ((cut r15 none (some 1)).length + r36.1.length ≤ sizeLine) <| lt ((cut r15 none (some 1) ++ r36.1)) fun v38 => (m_law_take r36.2 2).bind fun (r39 : Int × CS) => gd (-(2 ^ 63) ≤ (r39.1 : Int) ∧ (r39.1 : Int) < 2 ^ 63 ∧ ([([] : List Wd)] : List (List Wd)).length * (r39.1 : Int).toNat ≤ sizeLine) <| gd (((List.replicate (r39.1 : Int).toNat ([([] : List Wd)] : List (List Wd))).flatten).length + v38.length ≤ sizeLine) <| lt (((List.replicate (r39.1 : Int).toNat ([([] : List Wd)] : List (List Wd))).flatten ++ v38)) fun v42 => (m_law_text r39.2 v42).bind fun (r43 : Wd × CS) => (okX (m_read r43.1)).bind fun (r44 : PyData) => (reprW (r44)).bind fun (x45 : Wd) => (reprW (cMach j12.1)).bind fun (x46 : Wd) => cnd (!decide (x45 = x46)) ( some false) (gd ((6 : Int) ≤ sizeLine ∧ -(2 ^ 62) ≤ (6 : Int)) <| (forC (fun (e50 : Int) (s48 : (List (List Wd)) × Wd × CS) => (cnd (!s48.1.isEmpty) ( some s48.1) ( some ([([([115, 116, 97, 116, 101, 115] : Wd), ([50] : Wd)] : List Wd)] : List (List Wd)))).bind fun (y51 : (List (List Wd))) => (m_law_broken s48.2.2 y51).bind fun (r52 : (List (List Wd)) × CS) => (m_law_text r52.2 r52.1).bind fun (r53 : Wd × CS) => (m_law_due r53.1).bind fun (r54 : PyData) => (m_read r53.1).bind fun (r55 : PyData ⊕ Int) => lt (tryJ (fun y => y) r55 ((fun _ => PyData.none) ()) none) fun j56 => (cnd (j56.2.isNone) ( some j56.1) ( some ((cO cI) j56.2))).bind fun (y57 : PyData) => (reprW (y57)).bind fun (x58 : Wd) => (reprW (r54)).bind fun (x59 : Wd) => cnd ((!decide (x58 = x59) || PyData.eqv (cB (j56.2.isNone)) (cB (isaInt (r54))))) ( some (.rt false)) ( some (.nx (r52.1, r53.1, r53.2)))) (rng 0 6) (v42, v22, r43.2) : Option (Ctl ((List (List Wd)) × Wd × CS) (Bool))).bind fun | .nx s49 => (gd ((6 : Int) ≤ sizeLine ∧ -(2 ^ 62) ≤ (6 : Int)) <| (forC (fun (e65 : Int) (s63 : CS) => (m_law_bent s63 j12.1).bind fun (r66 : PyData × CS) => (m_is_machine r66.1).bind fun (r67 : Bool) => (reprW (cB r67)).bind fun (x68 : Wd) => (m_law_is_machine r66.1).bind fun (r69 : Bool) => (reprW (cB r69)).bind fun (x70 : Wd) => cnd (!decide (x68 = x70)) ( some (.rt false)) ( some (.nx r66.2))) (rng 0 6) s49.2.2 : Option (Ctl (CS) (Bool))).bind fun | .nx s64 => ((m_is_machine (cMach j12.1)).bind fun (r73 : Bool) => (reprW (cB r73)).bind fun (x74 : Wd) => some (decide (x74 = ([84, 114, 117, 101] : Wd)))) | .bk _ => none | .rt q75 => some q75) | .bk _ => none | .rt q76 => some q76))
end K44
end

section
set_option Elab.async false
set_option linter.all false
set_option maxRecDepth 100000
set_option maxHeartbeats 4000000
namespace K44
open PySem L2 Q TL
def topS (i : Nat) : Stmt := PySem.Challenge.pw_afterthought_k44_texts_and_forms.main.body.getD i (.Pass ⟨0, 0, 0, 0⟩)
abbrev s_law_start : Stmt := topS 25
theorem sc_law_start : FnScope ["script", "cell"] ["script"] (defScope s_law_start) := ⟨rfl, rfl, rfl, by decide +kernel, rfl, by decide +kernel, by decide +kernel⟩

abbrev s_law_fill : Stmt := topS 26
theorem sc_law_fill : FnScope ["c", "number"] ["c"] (defScope s_law_fill) := ⟨rfl, rfl, rfl, by decide +kernel, rfl, by decide +kernel, by decide +kernel⟩

abbrev s_law_take : Stmt := topS 27
theorem sc_law_take : FnScope ["c", "many", "digit"] ["c", "many"] (defScope s_law_take) := ⟨rfl, rfl, rfl, by decide +kernel, rfl, by decide +kernel, by decide +kernel⟩

abbrev s_law_shuffled : Stmt := topS 28
theorem sc_law_shuffled : FnScope ["c", "items", "left", "found"] ["c", "items"] (defScope s_law_shuffled) := ⟨rfl, rfl, rfl, by decide +kernel, rfl, by decide +kernel, by decide +kernel⟩



abbrev s_law_word : Stmt := topS 29
theorem sc_law_word : FnScope ["c", "letters", "most", "k"] ["c", "letters", "most"] (defScope s_law_word) := ⟨rfl, rfl, rfl, by decide +kernel, rfl, by decide +kernel, by decide +kernel⟩

abbrev s_law_once : Stmt := topS 34
theorem sc_law_once : FnScope ["rows", "found", "row"] ["rows"] (defScope s_law_once) := ⟨rfl, rfl, rfl, by decide +kernel, rfl, by decide +kernel, by decide +kernel⟩







abbrev s_law_machine : Stmt := topS 35
theorem sc_law_machine : FnScope ["c", "parts", "name", "rows", "begun", "many", "starts", "edges", "ends", "row"] ["c", "parts"] (defScope s_law_machine) := ⟨rfl, rfl, rfl, by decide +kernel, rfl, by decide +kernel, by decide +kernel⟩

abbrev s_law_drawn : Stmt := topS 40
theorem sc_law_drawn : FnScope ["c", "reads", "writes", "many", "edges", "turn", "begun", "ends", "word", "k"] ["c", "reads", "writes", "many"] (defScope s_law_drawn) := ⟨rfl, rfl, rfl, by decide +kernel, rfl, by decide +kernel, by decide +kernel⟩

abbrev s_law_lines : Stmt := topS 41
theorem sc_law_lines : FnScope ["machine", "found", "row"] ["machine"] (defScope s_law_lines) := ⟨rfl, rfl, rfl, by decide +kernel, rfl, by decide +kernel, by decide +kernel⟩

abbrev s_law_text : Stmt := topS 42
theorem sc_law_text : FnScope ["c", "lines", "found", "line", "text", "token"] ["c", "lines"] (defScope s_law_text) := ⟨rfl, rfl, rfl, by decide +kernel, rfl, by decide +kernel, by decide +kernel⟩

abbrev s_law_number : Stmt := topS 43
theorem sc_law_number : FnScope ["token", "most", "sign"] ["token", "most"] (defScope s_law_number) := ⟨rfl, rfl, rfl, by decide +kernel, rfl, by decide +kernel, by decide +kernel⟩

abbrev s_law_token : Stmt := topS 44
theorem sc_law_token : FnScope ["token", "sign"] ["token"] (defScope s_law_token) := ⟨rfl, rfl, rfl, by decide +kernel, rfl, by decide +kernel, by decide +kernel⟩

abbrev s_law_line : Stmt := topS 45
theorem sc_law_line : FnScope ["tokens", "many", "word", "letter"] ["tokens", "many"] (defScope s_law_line) := ⟨rfl, rfl, rfl, by decide +kernel, rfl, by decide +kernel, by decide +kernel⟩

abbrev s_law_broken : Stmt := topS 47
theorem sc_law_broken : FnScope ["c", "lines", "at", "line", "kind", "place", "news", "token", "other"] ["c", "lines"] (defScope s_law_broken) := ⟨rfl, rfl, rfl, by decide +kernel, rfl, by decide +kernel, by decide +kernel⟩

abbrev s_law_is_state : Stmt := topS 48
theorem sc_law_is_state : FnScope ["value", "many"] ["value", "many"] (defScope s_law_is_state) := ⟨rfl, rfl, rfl, by decide +kernel, rfl, by decide +kernel, by decide +kernel⟩

abbrev s_law_is_row : Stmt := topS 49
theorem sc_law_is_row : FnScope ["row", "many", "size", "words", "word", "sign"] ["row", "many", "size"] (defScope s_law_is_row) := ⟨rfl, rfl, rfl, by decide +kernel, rfl, by decide +kernel, by decide +kernel⟩

abbrev s_law_is_machine : Stmt := topS 50
theorem sc_law_is_machine : FnScope ["value", "k", "row"] ["value"] (defScope s_law_is_machine) := ⟨rfl, rfl, rfl, by decide +kernel, rfl, by decide +kernel, by decide +kernel⟩

abbrev s_law_bent : Stmt := topS 51
theorem sc_law_bent : FnScope ["c", "machine", "parts", "part", "rows", "kind", "k", "row"] ["c", "machine"] (defScope s_law_bent) := ⟨rfl, rfl, rfl, by decide +kernel, rfl, by decide +kernel, by decide +kernel⟩

abbrev s_is_word : Stmt := topS 5
theorem sc_is_word : FnScope ["value", "letter"] ["value"] (defScope s_is_word) := ⟨rfl, rfl, rfl, by decide +kernel, rfl, by decide +kernel, by decide +kernel⟩

abbrev s_shown : Stmt := topS 10
theorem sc_shown : FnScope ["word"] ["word"] (defScope s_shown) := ⟨rfl, rfl, rfl, by decide +kernel, rfl, by decide +kernel, by decide +kernel⟩

abbrev s_show : Stmt := topS 11
theorem sc_show : FnScope ["machine", "lines", "many", "starts", "edges", "ends", "state", "letter", "word", "target", "line"] ["machine"] (defScope s_show) := ⟨rfl, rfl, rfl, by decide +kernel, rfl, by decide +kernel, by decide +kernel⟩

abbrev s_number_of : Stmt := topS 12
theorem sc_number_of : FnScope ["token", "sign"] ["token"] (defScope s_number_of) := ⟨rfl, rfl, rfl, by decide +kernel, rfl, by decide +kernel, by decide +kernel⟩

abbrev s_word_of : Stmt := topS 13
theorem sc_word_of : FnScope ["token"] ["token"] (defScope s_word_of) := ⟨rfl, rfl, rfl, by decide +kernel, rfl, by decide +kernel, by decide +kernel⟩

abbrev s_pair_of : Stmt := topS 14
theorem sc_pair_of : FnScope ["tokens", "many", "state", "word"] ["tokens", "many"] (defScope s_pair_of) := ⟨rfl, rfl, rfl, by decide +kernel, rfl, by decide +kernel, by decide +kernel⟩

abbrev s_edge_of : Stmt := topS 15
theorem sc_edge_of : FnScope ["tokens", "many", "state", "word", "target"] ["tokens", "many"] (defScope s_edge_of) := ⟨rfl, rfl, rfl, by decide +kernel, rfl, by decide +kernel, by decide +kernel⟩

abbrev s_read : Stmt := topS 16
theorem sc_read : FnScope ["text", "many", "found", "line", "signs", "tokens", "one", "token", "word"] ["text"] (defScope s_read) := ⟨rfl, rfl, rfl, by decide +kernel, rfl, by decide +kernel, by decide +kernel⟩

abbrev s_law_due : Stmt := topS 46
theorem sc_law_due : FnScope ["text", "lines", "k", "many", "found", "tokens", "token", "row"] ["text"] (defScope s_law_due) := ⟨rfl, rfl, rfl, by decide +kernel, rfl, by decide +kernel, by decide +kernel⟩

abbrev s_is_integer : Stmt := topS 18
theorem sc_is_integer : FnScope ["value"] ["value"] (defScope s_is_integer) := ⟨rfl, rfl, rfl, by decide +kernel, rfl, by decide +kernel, by decide +kernel⟩

abbrev s_is_ascending : Stmt := topS 19
theorem sc_is_ascending : FnScope ["values", "one", "other"] ["values"] (defScope s_is_ascending) := ⟨rfl, rfl, rfl, by decide +kernel, rfl, by decide +kernel, by decide +kernel⟩

abbrev s_is_state : Stmt := topS 20
theorem sc_is_state : FnScope ["value", "many"] ["value", "many"] (defScope s_is_state) := ⟨rfl, rfl, rfl, by decide +kernel, rfl, by decide +kernel, by decide +kernel⟩

abbrev s_are_pairs : Stmt := topS 21
theorem sc_are_pairs : FnScope ["value", "many", "one"] ["value", "many"] (defScope s_are_pairs) := ⟨rfl, rfl, rfl, by decide +kernel, rfl, by decide +kernel, by decide +kernel⟩

abbrev s_are_edges : Stmt := topS 22
theorem sc_are_edges : FnScope ["value", "many", "one"] ["value", "many"] (defScope s_are_edges) := ⟨rfl, rfl, rfl, by decide +kernel, rfl, by decide +kernel, by decide +kernel⟩

abbrev s_is_machine : Stmt := topS 23
theorem sc_is_machine : FnScope ["value"] ["value"] (defScope s_is_machine) := ⟨rfl, rfl, rfl, by decide +kernel, rfl, by decide +kernel, by decide +kernel⟩

abbrev s_law : Stmt := topS 52
theorem sc_law : FnScope ["script", "c", "many", "machine", "lines", "text", "mixed", "turn", "due", "error", "value", "told", "wrong", "line"] ["script"] (defScope s_law) := ⟨rfl, rfl, rfl, by decide +kernel, rfl, by decide +kernel, by decide +kernel⟩
structure Txt (P : Program) (K : PySem.W.Frag) (mg : Str → Option Value) where
  f_law_start : Addr
  d_law_start : FuncData
  F_law_start : Fun K "_law_start" "_law_start" s_law_start f_law_start d_law_start
  b_law_start : Binds K d_law_start ["script"] []
  m_law_start : mg "_law_start" = some (.ref f_law_start)
  f_law_fill : Addr
  d_law_fill : FuncData
  F_law_fill : Fun K "_law_fill" "_law_fill" s_law_fill f_law_fill d_law_fill
  b_law_fill : Binds K d_law_fill ["c"] []
  m_law_fill : mg "_law_fill" = some (.ref f_law_fill)
  f_law_take : Addr
  d_law_take : FuncData
  F_law_take : Fun K "_law_take" "_law_take" s_law_take f_law_take d_law_take
  b_law_take : Binds K d_law_take ["c", "many"] []
  m_law_take : mg "_law_take" = some (.ref f_law_take)
  f_law_shuffled : Addr
  d_law_shuffled : FuncData
  F_law_shuffled : Fun K "_law_shuffled" "_law_shuffled" s_law_shuffled f_law_shuffled d_law_shuffled
  b_law_shuffled : Binds K d_law_shuffled ["c", "items"] []
  m_law_shuffled : mg "_law_shuffled" = some (.ref f_law_shuffled)
  f_law_word : Addr
  d_law_word : FuncData
  F_law_word : Fun K "_law_word" "_law_word" s_law_word f_law_word d_law_word
  b_law_word : Binds K d_law_word ["c", "letters", "most"] []
  m_law_word : mg "_law_word" = some (.ref f_law_word)
  f_law_once : Addr
  d_law_once : FuncData
  F_law_once : Fun K "_law_once" "_law_once" s_law_once f_law_once d_law_once
  b_law_once : Binds K d_law_once ["rows"] []
  m_law_once : mg "_law_once" = some (.ref f_law_once)
  f_law_machine : Addr
  d_law_machine : FuncData
  F_law_machine : Fun K "_law_machine" "_law_machine" s_law_machine f_law_machine d_law_machine
  b_law_machine : Binds K d_law_machine ["c", "parts"] []
  m_law_machine : mg "_law_machine" = some (.ref f_law_machine)
  f_law_drawn : Addr
  d_law_drawn : FuncData
  F_law_drawn : Fun K "_law_drawn" "_law_drawn" s_law_drawn f_law_drawn d_law_drawn
  b_law_drawn : Binds K d_law_drawn ["c", "reads", "writes", "many"] []
  m_law_drawn : mg "_law_drawn" = some (.ref f_law_drawn)
  f_law_lines : Addr
  d_law_lines : FuncData
  F_law_lines : Fun K "_law_lines" "_law_lines" s_law_lines f_law_lines d_law_lines
  b_law_lines : Binds K d_law_lines ["machine"] []
  m_law_lines : mg "_law_lines" = some (.ref f_law_lines)
  f_law_text : Addr
  d_law_text : FuncData
  F_law_text : Fun K "_law_text" "_law_text" s_law_text f_law_text d_law_text
  b_law_text : Binds K d_law_text ["c", "lines"] []
  m_law_text : mg "_law_text" = some (.ref f_law_text)
  f_law_number : Addr
  d_law_number : FuncData
  F_law_number : Fun K "_law_number" "_law_number" s_law_number f_law_number d_law_number
  b_law_number : Binds K d_law_number ["token", "most"] []
  m_law_number : mg "_law_number" = some (.ref f_law_number)
  f_law_token : Addr
  d_law_token : FuncData
  F_law_token : Fun K "_law_token" "_law_token" s_law_token f_law_token d_law_token
  b_law_token : Binds K d_law_token ["token"] []
  m_law_token : mg "_law_token" = some (.ref f_law_token)
  f_law_line : Addr
  d_law_line : FuncData
  F_law_line : Fun K "_law_line" "_law_line" s_law_line f_law_line d_law_line
  b_law_line : Binds K d_law_line ["tokens", "many"] []
  m_law_line : mg "_law_line" = some (.ref f_law_line)
  f_law_broken : Addr
  d_law_broken : FuncData
  F_law_broken : Fun K "_law_broken" "_law_broken" s_law_broken f_law_broken d_law_broken
  b_law_broken : Binds K d_law_broken ["c", "lines"] []
  m_law_broken : mg "_law_broken" = some (.ref f_law_broken)
  f_law_is_state : Addr
  d_law_is_state : FuncData
  F_law_is_state : Fun K "_law_is_state" "_law_is_state" s_law_is_state f_law_is_state d_law_is_state
  b_law_is_state : Binds K d_law_is_state ["value", "many"] []
  m_law_is_state : mg "_law_is_state" = some (.ref f_law_is_state)
  f_law_is_row : Addr
  d_law_is_row : FuncData
  F_law_is_row : Fun K "_law_is_row" "_law_is_row" s_law_is_row f_law_is_row d_law_is_row
  b_law_is_row : Binds K d_law_is_row ["row", "many", "size"] []
  m_law_is_row : mg "_law_is_row" = some (.ref f_law_is_row)
  f_law_is_machine : Addr
  d_law_is_machine : FuncData
  F_law_is_machine : Fun K "_law_is_machine" "_law_is_machine" s_law_is_machine f_law_is_machine d_law_is_machine
  b_law_is_machine : Binds K d_law_is_machine ["value"] []
  m_law_is_machine : mg "_law_is_machine" = some (.ref f_law_is_machine)
  f_law_bent : Addr
  d_law_bent : FuncData
  F_law_bent : Fun K "_law_bent" "_law_bent" s_law_bent f_law_bent d_law_bent
  b_law_bent : Binds K d_law_bent ["c", "machine"] []
  m_law_bent : mg "_law_bent" = some (.ref f_law_bent)
  f_is_word : Addr
  d_is_word : FuncData
  F_is_word : Fun K "is_word" "is_word" s_is_word f_is_word d_is_word
  b_is_word : Binds K d_is_word ["value"] []
  m_is_word : mg "is_word" = some (.ref f_is_word)
  f_shown : Addr
  d_shown : FuncData
  F_shown : Fun K "shown" "shown" s_shown f_shown d_shown
  b_shown : Binds K d_shown ["word"] []
  m_shown : mg "shown" = some (.ref f_shown)
  f_show : Addr
  d_show : FuncData
  F_show : Fun K "show" "show" s_show f_show d_show
  b_show : Binds K d_show ["machine"] []
  m_show : mg "show" = some (.ref f_show)
  f_number_of : Addr
  d_number_of : FuncData
  F_number_of : Fun K "number_of" "number_of" s_number_of f_number_of d_number_of
  b_number_of : Binds K d_number_of ["token"] []
  m_number_of : mg "number_of" = some (.ref f_number_of)
  f_word_of : Addr
  d_word_of : FuncData
  F_word_of : Fun K "word_of" "word_of" s_word_of f_word_of d_word_of
  b_word_of : Binds K d_word_of ["token"] []
  m_word_of : mg "word_of" = some (.ref f_word_of)
  f_pair_of : Addr
  d_pair_of : FuncData
  F_pair_of : Fun K "pair_of" "pair_of" s_pair_of f_pair_of d_pair_of
  b_pair_of : Binds K d_pair_of ["tokens", "many"] []
  m_pair_of : mg "pair_of" = some (.ref f_pair_of)
  f_edge_of : Addr
  d_edge_of : FuncData
  F_edge_of : Fun K "edge_of" "edge_of" s_edge_of f_edge_of d_edge_of
  b_edge_of : Binds K d_edge_of ["tokens", "many"] []
  m_edge_of : mg "edge_of" = some (.ref f_edge_of)
  f_read : Addr
  d_read : FuncData
  F_read : Fun K "read" "read" s_read f_read d_read
  b_read : Binds K d_read ["text"] []
  m_read : mg "read" = some (.ref f_read)
  f_law_due : Addr
  d_law_due : FuncData
  F_law_due : Fun K "_law_due" "_law_due" s_law_due f_law_due d_law_due
  b_law_due : Binds K d_law_due ["text"] []
  m_law_due : mg "_law_due" = some (.ref f_law_due)
  f_is_integer : Addr
  d_is_integer : FuncData
  F_is_integer : Fun K "is_integer" "is_integer" s_is_integer f_is_integer d_is_integer
  b_is_integer : Binds K d_is_integer ["value"] []
  m_is_integer : mg "is_integer" = some (.ref f_is_integer)
  f_is_ascending : Addr
  d_is_ascending : FuncData
  F_is_ascending : Fun K "is_ascending" "is_ascending" s_is_ascending f_is_ascending d_is_ascending
  b_is_ascending : Binds K d_is_ascending ["values"] []
  m_is_ascending : mg "is_ascending" = some (.ref f_is_ascending)
  f_is_state : Addr
  d_is_state : FuncData
  F_is_state : Fun K "is_state" "is_state" s_is_state f_is_state d_is_state
  b_is_state : Binds K d_is_state ["value", "many"] []
  m_is_state : mg "is_state" = some (.ref f_is_state)
  f_are_pairs : Addr
  d_are_pairs : FuncData
  F_are_pairs : Fun K "are_pairs" "are_pairs" s_are_pairs f_are_pairs d_are_pairs
  b_are_pairs : Binds K d_are_pairs ["value", "many"] []
  m_are_pairs : mg "are_pairs" = some (.ref f_are_pairs)
  f_are_edges : Addr
  d_are_edges : FuncData
  F_are_edges : Fun K "are_edges" "are_edges" s_are_edges f_are_edges d_are_edges
  b_are_edges : Binds K d_are_edges ["value", "many"] []
  m_are_edges : mg "are_edges" = some (.ref f_are_edges)
  f_is_machine : Addr
  d_is_machine : FuncData
  F_is_machine : Fun K "is_machine" "is_machine" s_is_machine f_is_machine d_is_machine
  b_is_machine : Binds K d_is_machine ["value"] []
  m_is_machine : mg "is_machine" = some (.ref f_is_machine)
  f_law : Addr
  d_law : FuncData
  F_law : Fun K "law" "law" s_law f_law d_law
  b_law : Binds K d_law ["script"] []
  m_law : mg "law" = some (.ref f_law)
  c_TextError : Addr
  i_TextError : Addr
  E_TextError : QX.ErrTxt P K mg "TextError" "TextError.__init__" "a line has no meaning" "line" c_TextError i_TextError
  z_all : mg "all" = none
  z_bool : mg "bool" = none
  z_enumerate : mg "enumerate" = none
  z_int : mg "int" = none
  z_isinstance : mg "isinstance" = none
  z_len : mg "len" = none
  z_list : mg "list" = none
  z_max : mg "max" = none
  z_range : mg "range" = none
  z_repr : mg "repr" = none
  z_sorted : mg "sorted" = none
  z_str : mg "str" = none
  z_tuple : mg "tuple" = none
  z_zip : mg "zip" = none
  g_DIGITS : ∃ t, mg "DIGITS" = some (.str (PySem.Str.ofString "0123456789") t)
  g_LETTERS : ∃ t, mg "LETTERS" = some (.str (PySem.Str.ofString "abcdefghijklmnopqrstuvwxyz") t)
  g_MOST_DIGITS : ∃ t, mg "MOST_DIGITS" = some (.int 4 t)
  g_NOTHING : ∃ t, mg "NOTHING" = some (.str (PySem.Str.ofString "-") t)
end K44
end

section
set_option Elab.async false
set_option linter.all false
set_option maxRecDepth 100000
set_option maxHeartbeats 4000000
namespace K44
open PySem L2 Q TL
section
variable {P : Program} {w : World} {K : PySem.W.Frag} {mg : Str → Option Value} {base : Heap}
theorem ok_law_start (T : Txt P K mg) : FnOk P w K mg base CX0 1 T.f_law_start T.d_law_start ["script"] (SpC (MirN (A := (List Int)) (fun x => m_law_start x) (fun x => [scrD K x]) (fun x => []) (fun x t => .lst [(cL cI) t.1, cI t.2.1, cI t.2.2.1, cI t.2.2.2.1, cI t.2.2.2.2]) (fun x t => []))) := by
  refine fn_d (k := 0) T.F_law_start sc_law_start (by rintro _ _ _ ⟨x, t, rfl, _⟩; rfl) (by decide) fun cdv A outer s H E ds ω Pr hr hR => ?_
  obtain ⟨x_script, t, rfl, rfl, hm, rfl⟩ := hR
  skip
  have nd := sc_law_start.nd
  have hu := hr.units
  change m_law_start x_script = some t at hm
  unfold m_law_start at hm
  change DSs _ _ [some (scrD K x_script), none] [] _
  obtain ⟨hg1, hm⟩ := gd_some hm
  have hq := some_i hm
  subst hq
  exact dss_retC (dn_lst (ps := [(cL cI) (List.map (fun (e2 : Int) => e2) (cut x_script none (some 63))), cI 0, cI 0, cI 0, cI 20]) (da_cons (de_froz (dn_of (comp_d (cy := cI) [("cell", 1)] (.nm 1) _ (fun x => .v (cI x)) (fun s3 => []) _ _ _ (compO_map (fun (e2 : Int) => e2) (cut x_script none (some 63))) (di_listT (c := cI) (de_froz (dn_sliceScr hg1 (de_var (d := scrD K x_script) 0) do_none (do_some de_int)))) (Pk.refl _) (blkOk_by (N := ["script", "cell"]) (sc := defScope s_law_start) (own := [("cell", 1)]) (by decide +kernel)) (fun _ _ _ _ _ => pg_name (i := 1) nd rfl (by first | exact Or.inl rfl | exact Or.inr rfl)) (by intro i hi; revert i hi; decide) (fun _ => rfl) (fun _ _ _ _ hb _ _ _ _ _ => by cases (some_i hb); exact dts_nil) (fun e2 s3 _ hx _ hb _ _ _ _ _ => by
          have hm := hb
          have hq := some_i hm
          subst hq
          exact (de_intI T.z_int (de_var (d := .v (cI e2)) 1)))))) (da_cons de_int (da_cons de_int (da_cons de_int (da_cons de_int da_nil)))))) (fun p => ⟨p, rfl, rfl⟩)
end
end K44
end

section
set_option Elab.async false
set_option linter.all false
set_option maxRecDepth 100000
set_option maxHeartbeats 4000000
namespace K44
open PySem L2 Q TL
section
variable {P : Program} {w : World} {K : PySem.W.Frag} {mg : Str → Option Value} {base : Heap}
theorem ok_law_fill (T : Txt P K mg) : FnOk P w K mg base CX0 1 T.f_law_fill T.d_law_fill ["c"] (SpC (Mir (A := Addr × CS) (fun x => m_law_fill x.2) (fun x => [.adr x.1]) (fun x => [(x.1, .lst [(cL cI) x.2.1, cI x.2.2.1, cI x.2.2.2.1, cI x.2.2.2.2.1, cI x.2.2.2.2.2])]) (fun x t => .v (cI t.1)) (fun x t => [(x.1, .lst [(cL cI) t.2.1, cI t.2.2.1, cI t.2.2.2.1, cI t.2.2.2.2.1, cI t.2.2.2.2.2])]))) := by
  refine fn_d (k := 0) T.F_law_fill sc_law_fill (by rintro _ _ _ ⟨x, t, rfl, _⟩; rfl) (by decide) fun cdv A outer s H E ds ω Pr hr hR => ?_
  obtain ⟨x, t, rfl, rfl, hm, rfl⟩ := hR
  obtain ⟨a_c, x_c⟩ := x
  have nd := sc_law_fill.nd
  have hu := hr.units
  change m_law_fill x_c = some t at hm
  unfold m_law_fill at hm
  change DSs _ _ [some (.adr a_c), none] [(a_c, .lst [(cL cI) x_c.1, cI x_c.2.1, cI x_c.2.2.1, cI x_c.2.2.2.1, cI x_c.2.2.2.2])] _
  obtain ⟨v1, hv1, hm⟩ := lt_some hm
  refine dss_setIx (p := cI v1) (k := 3) (ω' := [(a_c, .lst [(cL cI) x_c.1, cI x_c.2.1, cI x_c.2.2.1, cI v1, cI x_c.2.2.2.2])]) 0 (de_is (d := .v (cI (x_c.2.2.2.1 + 1))) (de_add (de_ixL (p := cI x_c.2.2.2.1) (de_var (d := .adr a_c) 0) de_int (lc 0) rfl) de_int) (by rw [hv1])) (de_var (d := .adr a_c) 0) de_int rfl ?_
  obtain ⟨v2, hv2, hm⟩ := lt_some hm
  refine dss_set (d := .v (cI v2)) (ρ' := [some (.adr a_c), some (.v (cI v2))]) (ω1 := [(a_c, .lst [(cL cI) x_c.1, cI x_c.2.1, cI x_c.2.2.1, cI v1, cI x_c.2.2.2.2])]) 1 (de_is (d := .v (cI ((v1 * 69621) + 12345))) (de_add (de_mul (de_ixL (p := cI v1) (de_var (d := .adr a_c) 0) de_int (lc 0) rfl) de_int (by simp)) de_int) (by rw [hv2])) ?_
  obtain ⟨j12, hj12, hm⟩ := bnd hm
  rcases j12 with j7 | _ | q13
  · refine dss_join (ω1 := [(a_c, .lst [(cL cI) x_c.1, cI x_c.2.1, cI x_c.2.2.1, cI v1, cI x_c.2.2.2.2])]) [some (.adr a_c), some (.v (cI j7.1))] [(a_c, .lst [(cL cI) j7.2.1, cI j7.2.2.1, cI j7.2.2.2.1, cI j7.2.2.2.2.1, cI j7.2.2.2.2.2])] (dt_c (de_ixL (p := cI x_c.2.1) (de_var (d := .adr a_c) 0) de_int (lc 0) rfl) (de_lenLt (c := cI) (xs := x_c.1) T.z_len (de_ixL (p := (cL cI) x_c.1) (de_var (d := .adr a_c) 0) de_int (lc 0) rfl) lv) c_lt) (fun hk => ?_) (fun hk => ?_) ?_
    · have hm := cnd_t hk hj12
      obtain ⟨x8, hx8, hm⟩ := bnd hm
      obtain ⟨x9, hx9, hm⟩ := bnd hm
      obtain ⟨v10, hv10, hm⟩ := lt_some hm
      refine dss_set (d := .v (cI v10)) (ρ' := [some (.adr a_c), some (.v (cI v10))]) (ω1 := [(a_c, .lst [(cL cI) x_c.1, cI x_c.2.1, cI x_c.2.2.1, cI v1, cI x_c.2.2.2.2])]) 1 (de_is (d := .v (cI (if ((0 - 1) - x9) > x8 then ((0 - 1) - x9) else x8))) (de_max2 rfl T.z_max (de_ixLt (c := cI) (de_ixL (p := (cL cI) x_c.1) (de_var (d := .adr a_c) 0) de_int (lc 0) rfl) (de_ixL (p := cI x_c.2.1) (de_var (d := .adr a_c) 0) de_int (lc 0) rfl) lv hx8) (de_sub (de_sub de_int de_int) (de_ixLt (c := cI) (de_ixL (p := (cL cI) x_c.1) (de_var (d := .adr a_c) 0) de_int (lc 0) rfl) (de_ixL (p := cI x_c.2.1) (de_var (d := .adr a_c) 0) de_int (lc 0) rfl) lv hx9))) (by rw [hv10])) ?_
      obtain ⟨v11, hv11, hm⟩ := lt_some hm
      refine dss_setIx (p := cI v11) (k := 1) (ω' := [(a_c, .lst [(cL cI) x_c.1, cI v11, cI x_c.2.2.1, cI v1, cI x_c.2.2.2.2])]) 0 (de_is (d := .v (cI (x_c.2.1 + 1))) (de_add (de_ixL (p := cI x_c.2.1) (de_var (d := .adr a_c) 0) de_int (lc 0) rfl) de_int) (by rw [hv11])) (de_var (d := .adr a_c) 0) de_int rfl ?_
      refine dss_if1 (ω1 := [(a_c, .lst [(cL cI) x_c.1, cI v11, cI x_c.2.2.1, cI v1, cI x_c.2.2.2.2])]) (dt_c (de_var (d := .v (cI v10)) 1) (de_pow de_int de_int (by decide)) c_ge) (fun hk => ?_) (fun hk => ?_)
      · have hm := cnd_t hk hm
        first | (have hq := Ctl.rt.inj (some_i hm); subst hq; exact dss_ret (ω1 := [(a_c, .lst [(cL cI) x_c.1, cI v11, cI x_c.2.2.1, cI v1, cI x_c.2.2.2.2])]) (de_var (d := .v (cI v10)) 1) (by first | exact ⟨rfl, rfl⟩ | exact ⟨⟨rfl, rfl⟩, fun z => z⟩ | exact ⟨⟨⟨rfl, rfl⟩, fun z => z⟩, fun z => z⟩ | exact ⟨⟨⟨⟨rfl, rfl⟩, fun z => z⟩, fun z => z⟩, fun z => z⟩)) | cases (some_i hm)
      · have hm := cnd_f hk hm
        first | (have hq := Ctl.nx.inj (some_i hm); subst hq; exact dss_end ⟨.inr rfl, .inr rfl, trivial⟩ ⟨[0], rfl, by decide⟩) | cases (some_i hm)
    · have hm := cnd_f hk hj12
      first | (have hq := Ctl.nx.inj (some_i hm); subst hq; exact dss_end ⟨.inr rfl, .inr rfl, trivial⟩ ⟨[0], rfl, by decide⟩) | cases (some_i hm)
    obtain ⟨j16, hj16, hm⟩ := bnd hm
    refine dss_join (ω1 := [(a_c, .lst [(cL cI) j7.2.1, cI j7.2.2.1, cI j7.2.2.2.1, cI j7.2.2.2.2.1, cI j7.2.2.2.2.2])]) [some (.adr a_c), some (.v (cI j16))] [(a_c, .lst [(cL cI) j7.2.1, cI j7.2.2.1, cI j7.2.2.2.1, cI j7.2.2.2.2.1, cI j7.2.2.2.2.2])] (dt_bool (dw_and (dt_truLt (c := cI) (xs := j7.2.1) (de_ixL (p := (cL cI) j7.2.1) (de_var (d := .adr a_c) 0) de_int (lc 0) rfl)) (fun _ => (dw_and1 (dt_c (de_ixL (p := cI j7.2.2.1) (de_var (d := .adr a_c) 0) de_int (lc 0) rfl) (de_lenLt (c := cI) (xs := j7.2.1) T.z_len (de_ixL (p := (cL cI) j7.2.1) (de_var (d := .adr a_c) 0) de_int (lc 0) rfl) lv) c_ge))) (fun _ => rfl))) (fun hk => ?_) (fun hk => ?_) ?_
    · have hm := cnd_t hk hj16
      obtain ⟨x17, hx17, hm⟩ := bnd hm
      obtain ⟨v18, hv18, hm⟩ := lt_some hm
      refine dss_set (d := .v (cI v18)) (ρ' := [some (.adr a_c), some (.v (cI v18))]) (ω1 := [(a_c, .lst [(cL cI) j7.2.1, cI j7.2.2.1, cI j7.2.2.2.1, cI j7.2.2.2.2.1, cI j7.2.2.2.2.2])]) 1 (de_is (d := .v (cI (j7.1 + (x17 % 1000003)))) (de_add (de_var (d := .v (cI j7.1)) 1) (de_mod (de_intI T.z_int (de_ixLt (c := cI) (de_ixL (p := (cL cI) j7.2.1) (de_var (d := .adr a_c) 0) de_int (lc 0) rfl) (de_neg de_int) lv hx17)) de_int (by decide))) (by rw [hv18])) ?_
      have hq := some_i hm
      subst hq
      exact dss_end ⟨.inr rfl, .inr rfl, trivial⟩ ⟨[0], rfl, by decide⟩
    · have hm := cnd_f hk hj16
      have hq := some_i hm
      subst hq
      exact dss_end ⟨.inr rfl, .inr rfl, trivial⟩ ⟨[0], rfl, by decide⟩
    obtain ⟨v19, hv19, hm⟩ := lt_some hm
    refine dss_set (d := .v (cI v19)) (ρ' := [some (.adr a_c), some (.v (cI v19))]) (ω1 := [(a_c, .lst [(cL cI) j7.2.1, cI j7.2.2.1, cI j7.2.2.2.1, cI j7.2.2.2.2.1, cI j7.2.2.2.2.2])]) 1 (de_is (d := .v (cI (((j16 * 48271) + (j7.2.2.2.2.1 * 69621)) % 2147483647))) (de_mod (de_intI T.z_int (de_add (de_mul (de_var (d := .v (cI j16)) 1) de_int (by simp)) (de_mul (de_ixL (p := cI j7.2.2.2.2.1) (de_var (d := .adr a_c) 0) de_int (lc 0) rfl) de_int (by simp)))) de_int (by decide)) (by rw [hv19])) ?_
    obtain ⟨hg20, hm⟩ := gd_some hm
    have hq := some_i hm
    subst hq
    exact dss_ret (ω1 := [(a_c, .lst [(cL cI) j7.2.1, cI j7.2.2.1, cI j7.2.2.2.1, cI j7.2.2.2.2.1, cI j7.2.2.2.2.2])]) (de_add (de_fdiv (de_intI T.z_int (de_add (de_add (de_mul (de_var (d := .v (cI v19)) 1) (de_var (d := .v (cI v19)) 1) hg20) (de_mul (de_ixL (p := cI j7.2.2.2.2.1) (de_var (d := .adr a_c) 0) de_int (lc 0) rfl) de_int (by simp))) de_int)) de_int (by decide)) de_int) (by first | exact ⟨rfl, rfl⟩ | exact ⟨⟨rfl, rfl⟩, fun z => z⟩ | exact ⟨⟨⟨rfl, rfl⟩, fun z => z⟩, fun z => z⟩ | exact ⟨⟨⟨⟨rfl, rfl⟩, fun z => z⟩, fun z => z⟩, fun z => z⟩)
  · cases hm
  · have hq := some_i hm
    subst hq
    refine dss_if3 (ω1 := [(a_c, .lst [(cL cI) x_c.1, cI x_c.2.1, cI x_c.2.2.1, cI v1, cI x_c.2.2.2.2])]) (dt_c (de_ixL (p := cI x_c.2.1) (de_var (d := .adr a_c) 0) de_int (lc 0) rfl) (de_lenLt (c := cI) (xs := x_c.1) T.z_len (de_ixL (p := (cL cI) x_c.1) (de_var (d := .adr a_c) 0) de_int (lc 0) rfl) lv) c_lt) (fun hk => ?_) (fun hk => ?_)
    · have hm := cnd_t hk hj12
      obtain ⟨x8, hx8, hm⟩ := bnd hm
      obtain ⟨x9, hx9, hm⟩ := bnd hm
      obtain ⟨v10, hv10, hm⟩ := lt_some hm
      refine dss_set (d := .v (cI v10)) (ρ' := [some (.adr a_c), some (.v (cI v10))]) (ω1 := [(a_c, .lst [(cL cI) x_c.1, cI x_c.2.1, cI x_c.2.2.1, cI v1, cI x_c.2.2.2.2])]) 1 (de_is (d := .v (cI (if ((0 - 1) - x9) > x8 then ((0 - 1) - x9) else x8))) (de_max2 rfl T.z_max (de_ixLt (c := cI) (de_ixL (p := (cL cI) x_c.1) (de_var (d := .adr a_c) 0) de_int (lc 0) rfl) (de_ixL (p := cI x_c.2.1) (de_var (d := .adr a_c) 0) de_int (lc 0) rfl) lv hx8) (de_sub (de_sub de_int de_int) (de_ixLt (c := cI) (de_ixL (p := (cL cI) x_c.1) (de_var (d := .adr a_c) 0) de_int (lc 0) rfl) (de_ixL (p := cI x_c.2.1) (de_var (d := .adr a_c) 0) de_int (lc 0) rfl) lv hx9))) (by rw [hv10])) ?_
      obtain ⟨v11, hv11, hm⟩ := lt_some hm
      refine dss_setIx (p := cI v11) (k := 1) (ω' := [(a_c, .lst [(cL cI) x_c.1, cI v11, cI x_c.2.2.1, cI v1, cI x_c.2.2.2.2])]) 0 (de_is (d := .v (cI (x_c.2.1 + 1))) (de_add (de_ixL (p := cI x_c.2.1) (de_var (d := .adr a_c) 0) de_int (lc 0) rfl) de_int) (by rw [hv11])) (de_var (d := .adr a_c) 0) de_int rfl ?_
      refine dss_if1 (ω1 := [(a_c, .lst [(cL cI) x_c.1, cI v11, cI x_c.2.2.1, cI v1, cI x_c.2.2.2.2])]) (dt_c (de_var (d := .v (cI v10)) 1) (de_pow de_int de_int (by decide)) c_ge) (fun hk => ?_) (fun hk => ?_)
      · have hm := cnd_t hk hm
        first | (have hq := Ctl.rt.inj (some_i hm); subst hq; exact dss_ret (ω1 := [(a_c, .lst [(cL cI) x_c.1, cI v11, cI x_c.2.2.1, cI v1, cI x_c.2.2.2.2])]) (de_var (d := .v (cI v10)) 1) (by first | exact ⟨rfl, rfl⟩ | exact ⟨⟨rfl, rfl⟩, fun z => z⟩ | exact ⟨⟨⟨rfl, rfl⟩, fun z => z⟩, fun z => z⟩ | exact ⟨⟨⟨⟨rfl, rfl⟩, fun z => z⟩, fun z => z⟩, fun z => z⟩)) | cases (some_i hm)
      · have hm := cnd_f hk hm
        first | (have hq := Ctl.nx.inj (some_i hm); subst hq; exact dss_end ⟨.inr rfl, .inr rfl, trivial⟩ ⟨[0], rfl, by decide⟩) | cases (some_i hm)
    · have hm := cnd_f hk hj12
      first | (have hq := Ctl.nx.inj (some_i hm); subst hq; exact dss_end ⟨.inr rfl, .inr rfl, trivial⟩ ⟨[0], rfl, by decide⟩) | cases (some_i hm)
end
end K44
end

section
set_option Elab.async false
set_option linter.all false
set_option maxRecDepth 100000
set_option maxHeartbeats 4000000
namespace K44
open PySem L2 Q TL
section
variable {P : Program} {w : World} {K : PySem.W.Frag} {mg : Str → Option Value} {base : Heap}
theorem ok_law_take (T : Txt P K mg) : FnOk P w K mg base CX0 2 T.f_law_take T.d_law_take ["c", "many"] (SpC (Mir (A := Addr × CS × Int) (fun x => m_law_take x.2.1 x.2.2) (fun x => [.adr x.1, .v (cI x.2.2)]) (fun x => [(x.1, .lst [(cL cI) x.2.1.1, cI x.2.1.2.1, cI x.2.1.2.2.1, cI x.2.1.2.2.2.1, cI x.2.1.2.2.2.2])]) (fun x t => .v (cI t.1)) (fun x t => [(x.1, .lst [(cL cI) t.2.1, cI t.2.2.1, cI t.2.2.2.1, cI t.2.2.2.2.1, cI t.2.2.2.2.2])]))) := by
  refine fn_d (k := 1) T.F_law_take sc_law_take (by rintro _ _ _ ⟨x, t, rfl, _⟩; rfl) (by decide) fun cdv A outer s H E ds ω Pr hr hR => ?_
  obtain ⟨x, t, rfl, rfl, hm, rfl⟩ := hR
  obtain ⟨a_c, x_c, x_many⟩ := x
  have nd := sc_law_take.nd
  have hu := hr.units
  change m_law_take x_c x_many = some t at hm
  unfold m_law_take at hm
  change DSs _ _ [some (.adr a_c), some (.v (cI x_many)), none] [(a_c, .lst [(cL cI) x_c.1, cI x_c.2.1, cI x_c.2.2.1, cI x_c.2.2.2.1, cI x_c.2.2.2.2])] _
  obtain ⟨j2, hj2, hm⟩ := bnd hm
  refine dss_join (ω1 := [(a_c, .lst [(cL cI) x_c.1, cI x_c.2.1, cI x_c.2.2.1, cI x_c.2.2.2.1, cI x_c.2.2.2.2])]) [some (.adr a_c), some (.v (cI x_many)), none] [(a_c, .lst [(cL cI) j2.1, cI j2.2.1, cI j2.2.2.1, cI j2.2.2.2.1, cI j2.2.2.2.2])] (dt_c (de_ixL (p := cI x_c.2.2.1) (de_var (d := .adr a_c) 0) de_int (lc 0) rfl) (de_var (d := .v (cI x_many)) 1) c_lt) (fun hk => ?_) (fun hk => ?_) ?_
  · have hm := cnd_t hk hj2
    obtain ⟨r3, hr3, hm⟩ := bnd hm
    refine dss_setIx (p := cI r3.1) (k := 2) (ω' := [(a_c, .lst [(cL cI) r3.2.1, cI r3.2.2.1, cI r3.1, cI r3.2.2.2.2.1, cI r3.2.2.2.2.2])]) 0 (de_call (d := .v (cI r3.1)) (ωp := [(a_c, .lst [(cL cI) x_c.1, cI x_c.2.1, cI x_c.2.2.1, cI x_c.2.2.2.1, cI x_c.2.2.2.2])]) (ωp' := [(a_c, .lst [(cL cI) r3.2.1, cI r3.2.2.1, cI r3.2.2.2.1, cI r3.2.2.2.2.1, cI r3.2.2.2.2.2])]) (ωr := []) (ω2 := [(a_c, .lst [(cL cI) r3.2.1, cI r3.2.2.1, cI r3.2.2.2.1, cI r3.2.2.2.2.1, cI r3.2.2.2.2.2])]) (ok_law_fill T) (hr.mono (by decide)) T.m_law_fill T.F_law_fill.kp T.b_law_fill (da_cons (de_var (d := .adr a_c) 0) da_nil) ⟨(a_c, x_c), r3, rfl, rfl, hr3, rfl⟩ (fun _ _ h => h) [0] [0]) (de_var (d := .adr a_c) 0) de_int rfl ?_
    have hq := some_i hm
    subst hq
    exact dss_end ⟨.inr rfl, .inr rfl, .inl rfl, trivial⟩ ⟨[0], rfl, by decide⟩
  · have hm := cnd_f hk hj2
    have hq := some_i hm
    subst hq
    exact dss_end ⟨.inr rfl, .inr rfl, .inl rfl, trivial⟩ ⟨[0], rfl, by decide⟩
  obtain ⟨hg4, hm⟩ := gd_some hm
  obtain ⟨v5, hv5, hm⟩ := lt_some hm
  refine dss_set (d := .v (cI v5)) (ρ' := [some (.adr a_c), some (.v (cI x_many)), some (.v (cI v5))]) (ω1 := [(a_c, .lst [(cL cI) j2.1, cI j2.2.1, cI j2.2.2.1, cI j2.2.2.2.1, cI j2.2.2.2.2])]) 2 (de_is (d := .v (cI (j2.2.2.1 % x_many))) (de_mod (de_intI T.z_int (de_ixL (p := cI j2.2.2.1) (de_var (d := .adr a_c) 0) de_int (lc 0) rfl)) (de_var (d := .v (cI x_many)) 1) hg4) (by rw [hv5])) ?_
  obtain ⟨hg6, hm⟩ := gd_some hm
  obtain ⟨v7, hv7, hm⟩ := lt_some hm
  refine dss_setIx (p := cI v7) (k := 2) (ω' := [(a_c, .lst [(cL cI) j2.1, cI j2.2.1, cI v7, cI j2.2.2.2.1, cI j2.2.2.2.2])]) 0 (de_is (d := .v (cI (j2.2.2.1 / x_many))) (de_fdiv (de_ixL (p := cI j2.2.2.1) (de_var (d := .adr a_c) 0) de_int (lc 0) rfl) (de_var (d := .v (cI x_many)) 1) hg6) (by rw [hv7])) (de_var (d := .adr a_c) 0) de_int rfl ?_
  have hq := some_i hm
  subst hq
  exact dss_ret (ω1 := [(a_c, .lst [(cL cI) j2.1, cI j2.2.1, cI v7, cI j2.2.2.2.1, cI j2.2.2.2.2])]) (de_var (d := .v (cI v5)) 2) (by first | exact ⟨rfl, rfl⟩ | exact ⟨⟨rfl, rfl⟩, fun z => z⟩ | exact ⟨⟨⟨rfl, rfl⟩, fun z => z⟩, fun z => z⟩ | exact ⟨⟨⟨⟨rfl, rfl⟩, fun z => z⟩, fun z => z⟩, fun z => z⟩)
end
end K44
end

section
set_option Elab.async false
set_option linter.all false
set_option maxRecDepth 100000
set_option maxHeartbeats 4000000
namespace K44
open PySem L2 Q TL
section
variable {P : Program} {w : World} {K : PySem.W.Frag} {mg : Str → Option Value} {base : Heap}
theorem ok_law_shuffled (T : Txt P K mg) : FnOk P w K mg base CX0 3 T.f_law_shuffled T.d_law_shuffled ["c", "items"] (SpC (Mir (A := Addr × CS × (List Int)) (fun x => m_law_shuffled x.2.1 x.2.2) (fun x => [.adr x.1, .v ((cL cI) x.2.2)]) (fun x => [(x.1, .lst [(cL cI) x.2.1.1, cI x.2.1.2.1, cI x.2.1.2.2.1, cI x.2.1.2.2.2.1, cI x.2.1.2.2.2.2])]) (fun x t => .v ((cL cI) t.1)) (fun x t => [(x.1, .lst [(cL cI) t.2.1, cI t.2.2.1, cI t.2.2.2.1, cI t.2.2.2.2.1, cI t.2.2.2.2.2])]))) := by
  refine fn_d (k := 2) T.F_law_shuffled sc_law_shuffled (by rintro _ _ _ ⟨x, t, rfl, _⟩; rfl) (by decide) fun cdv A outer s H E ds ω Pr hr hR => ?_
  obtain ⟨x, t, rfl, rfl, hm, rfl⟩ := hR
  obtain ⟨a_c, x_c, x_items⟩ := x
  have nd := sc_law_shuffled.nd
  have hu := hr.units
  change m_law_shuffled x_c x_items = some t at hm
  unfold m_law_shuffled at hm
  change DSs _ _ [some (.adr a_c), some (.v ((cL cI) x_items)), none, none] [(a_c, .lst [(cL cI) x_c.1, cI x_c.2.1, cI x_c.2.2.1, cI x_c.2.2.2.1, cI x_c.2.2.2.2])] _
  refine dss_setN (cc := .lst (List.map cI x_items)) (ω1 := [(a_c, .lst [(cL cI) x_c.1, cI x_c.2.1, cI x_c.2.2.1, cI x_c.2.2.2.1, cI x_c.2.2.2.2])]) 2 (dn_listL (ps := List.map cI x_items) T.z_list (de_var (d := .v ((cL cI) x_items)) 1) lv) (fun a1 => ?_)
  change DSs _ _ [some (.adr a_c), some (.v ((cL cI) x_items)), some (.adr a1), none] [(a_c, .lst [(cL cI) x_c.1, cI x_c.2.1, cI x_c.2.2.1, cI x_c.2.2.2.1, cI x_c.2.2.2.2]), (a1, .lst (List.map cI x_items))] _
  obtain ⟨v3, hv3, hm⟩ := lt_some hm
  refine dss_setN (cc := .lst (List.map cI v3)) (ω1 := [(a_c, .lst [(cL cI) x_c.1, cI x_c.2.1, cI x_c.2.2.1, cI x_c.2.2.2.1, cI x_c.2.2.2.2]), (a1, .lst (List.map cI x_items))]) 3 (dn_is (c := .lst (List.map cI ([] : List Int))) (dn_lst (ps := List.map cI ([] : List Int)) da_nil) (by rw [hv3])) (fun a2 => ?_)
  change DSs _ _ [some (.adr a_c), some (.v ((cL cI) x_items)), some (.adr a1), some (.adr a2)] [(a_c, .lst [(cL cI) x_c.1, cI x_c.2.1, cI x_c.2.2.1, cI x_c.2.2.2.1, cI x_c.2.2.2.2]), (a1, .lst (List.map cI x_items)), (a2, .lst (List.map cI v3))] _
  obtain ⟨s5, hs5, hm⟩ := bnd hm
  refine dss_whileS _ (fun (s4 : CS × (List Int) × (List Int)) => [some (.adr a_c), some (.v ((cL cI) x_items)), some (.adr a1), some (.adr a2)]) (fun (s4 : CS × (List Int) × (List Int)) => [(a_c, .lst [(cL cI) s4.1.1, cI s4.1.2.1, cI s4.1.2.2.1, cI s4.1.2.2.2.1, cI s4.1.2.2.2.2]), (a1, .lst (List.map cI s4.2.1)), (a2, .lst (List.map cI s4.2.2))]) _ _ _ _ hs5 ⟨.inr rfl, .inr rfl, .inr rfl, .inr rfl, trivial⟩ ⟨[0, 1, 2], rfl, by decide⟩ ?_ ?_ ?_ PassesOwn.never
  · intro s4 b hm
    have hq := some_i hm
    subst hq
    exact (dt_truCt (c := cI) (xs := s4.2.1) 1 (de_var (d := .adr a1) 2))
  · intro s4 k ht hm
    change DSs _ _ [some (.adr a_c), some (.v ((cL cI) x_items)), some (.adr a1), some (.adr a2)] [(a_c, .lst [(cL cI) s4.1.1, cI s4.1.2.1, cI s4.1.2.2.1, cI s4.1.2.2.2.1, cI s4.1.2.2.2.2]), (a1, .lst (List.map cI s4.2.1)), (a2, .lst (List.map cI s4.2.2))] _
    obtain ⟨r6, hr6, hm⟩ := bnd hm
    obtain ⟨hg7, hm⟩ := gd_some hm
    obtain ⟨x8, hx8, hm⟩ := bnd hm
    obtain ⟨hg9, hm⟩ := gd_some hm
    refine dss_expr (ω1 := [(a_c, .lst [(cL cI) r6.2.1, cI r6.2.2.1, cI r6.2.2.2.1, cI r6.2.2.2.2.1, cI r6.2.2.2.2.2]), (a1, .lst (List.map cI x8.2)), (a2, .lst (List.map cI (s4.2.2 ++ [x8.1])))]) (de_appendT (c := cI) (xs := s4.2.2) (x := x8.1) (ω' := [(a_c, .lst [(cL cI) r6.2.1, cI r6.2.2.1, cI r6.2.2.2.1, cI r6.2.2.2.2.1, cI r6.2.2.2.2.2]), (a1, .lst (List.map cI x8.2)), (a2, .lst (List.map cI (s4.2.2 ++ [x8.1])))]) 2 (de_var (d := .adr a2) 3) (de_popT (c := cI) (xs := s4.2.1) (y := x8) (ω' := [(a_c, .lst [(cL cI) r6.2.1, cI r6.2.2.1, cI r6.2.2.2.1, cI r6.2.2.2.2.1, cI r6.2.2.2.2.2]), (a1, .lst (List.map cI x8.2)), (a2, .lst (List.map cI s4.2.2))]) 1 (de_var (d := .adr a1) 2) (de_call (d := .v (cI r6.1)) (ωp := [(a_c, .lst [(cL cI) s4.1.1, cI s4.1.2.1, cI s4.1.2.2.1, cI s4.1.2.2.2.1, cI s4.1.2.2.2.2])]) (ωp' := [(a_c, .lst [(cL cI) r6.2.1, cI r6.2.2.1, cI r6.2.2.2.1, cI r6.2.2.2.2.1, cI r6.2.2.2.2.2])]) (ωr := [(a1, .lst (List.map cI s4.2.1)), (a2, .lst (List.map cI s4.2.2))]) (ω2 := [(a_c, .lst [(cL cI) r6.2.1, cI r6.2.2.1, cI r6.2.2.2.1, cI r6.2.2.2.2.1, cI r6.2.2.2.2.2]), (a1, .lst (List.map cI s4.2.1)), (a2, .lst (List.map cI s4.2.2))]) (ok_law_take T) (hr.mono (by decide)) T.m_law_take T.F_law_take.kp T.b_law_take (da_cons (de_var (d := .adr a_c) 0) (da_cons (de_lenLt (c := cI) (xs := s4.2.1) T.z_len (de_var (d := .adr a1) 2) (lc 1)) da_nil)) ⟨(a_c, s4.1, (s4.2.1.length : Int)), r6, rfl, rfl, hr6, rfl⟩ (fun _ _ h => h) [0, 1, 2] [0, 1, 2]) hx8 hg7) hg9) ?_
    have hq := some_i hm
    subst hq
    exact dss_nil ⟨_, _, .inl rfl, ⟨.inr rfl, .inr rfl, .inr rfl, .inr rfl, trivial⟩, ⟨[0, 1, 2], rfl, by decide⟩⟩
  change DSs _ _ [some (.adr a_c), some (.v ((cL cI) x_items)), some (.adr a1), some (.adr a2)] [(a_c, .lst [(cL cI) s5.1.1, cI s5.1.2.1, cI s5.1.2.2.1, cI s5.1.2.2.2.1, cI s5.1.2.2.2.2]), (a1, .lst (List.map cI s5.2.1)), (a2, .lst (List.map cI s5.2.2))] _
  refine dss_frz (ps := List.map cI s5.2.2) (ω' := [(a_c, .lst [(cL cI) s5.1.1, cI s5.1.2.1, cI s5.1.2.2.1, cI s5.1.2.2.2.1, cI s5.1.2.2.2.2]), (a1, .lst (List.map cI s5.2.1))]) 3 [0, 1, 2] rfl rfl (by decide) ?_
  change DSs _ _ [some (.adr a_c), some (.v ((cL cI) x_items)), some (.adr a1), some (.v ((cL cI) s5.2.2))] _ _
  have hq := some_i hm
  subst hq
  exact dss_ret (ω1 := [(a_c, .lst [(cL cI) s5.1.1, cI s5.1.2.1, cI s5.1.2.2.1, cI s5.1.2.2.2.1, cI s5.1.2.2.2.2])]) (de_drop (de_var (d := .v ((cL cI) s5.2.2)) 3) ⟨[0], rfl, by decide⟩) (by first | exact ⟨rfl, rfl⟩ | exact ⟨⟨rfl, rfl⟩, fun z => z⟩ | exact ⟨⟨⟨rfl, rfl⟩, fun z => z⟩, fun z => z⟩ | exact ⟨⟨⟨⟨rfl, rfl⟩, fun z => z⟩, fun z => z⟩, fun z => z⟩)
end
end K44
end

section
set_option Elab.async false
set_option linter.all false
set_option maxRecDepth 100000
set_option maxHeartbeats 4000000
namespace K44
open PySem L2 Q TL
section
variable {P : Program} {w : World} {K : PySem.W.Frag} {mg : Str → Option Value} {base : Heap}
theorem ok_law_shuffled_W (T : Txt P K mg) : FnOk P w K mg base CX0 3 T.f_law_shuffled T.d_law_shuffled ["c", "items"] (SpC (Mir (A := Addr × CS × (List (List Wd))) (fun x => m_law_shuffled_W x.2.1 x.2.2) (fun x => [.adr x.1, .v ((cL (cL cS)) x.2.2)]) (fun x => [(x.1, .lst [(cL cI) x.2.1.1, cI x.2.1.2.1, cI x.2.1.2.2.1, cI x.2.1.2.2.2.1, cI x.2.1.2.2.2.2])]) (fun x t => .v ((cL (cL cS)) t.1)) (fun x t => [(x.1, .lst [(cL cI) t.2.1, cI t.2.2.1, cI t.2.2.2.1, cI t.2.2.2.2.1, cI t.2.2.2.2.2])]))) := by
  refine fn_d (k := 2) T.F_law_shuffled sc_law_shuffled (by rintro _ _ _ ⟨x, t, rfl, _⟩; rfl) (by decide) fun cdv A outer s H E ds ω Pr hr hR => ?_
  obtain ⟨x, t, rfl, rfl, hm, rfl⟩ := hR
  obtain ⟨a_c, x_c, x_items⟩ := x
  have nd := sc_law_shuffled.nd
  have hu := hr.units
  change m_law_shuffled_W x_c x_items = some t at hm
  unfold m_law_shuffled_W at hm
  change DSs _ _ [some (.adr a_c), some (.v ((cL (cL cS)) x_items)), none, none] [(a_c, .lst [(cL cI) x_c.1, cI x_c.2.1, cI x_c.2.2.1, cI x_c.2.2.2.1, cI x_c.2.2.2.2])] _
  refine dss_setN (cc := .lst (List.map (cL cS) x_items)) (ω1 := [(a_c, .lst [(cL cI) x_c.1, cI x_c.2.1, cI x_c.2.2.1, cI x_c.2.2.2.1, cI x_c.2.2.2.2])]) 2 (dn_listL (ps := List.map (cL cS) x_items) T.z_list (de_var (d := .v ((cL (cL cS)) x_items)) 1) lv) (fun a1 => ?_)
  change DSs _ _ [some (.adr a_c), some (.v ((cL (cL cS)) x_items)), some (.adr a1), none] [(a_c, .lst [(cL cI) x_c.1, cI x_c.2.1, cI x_c.2.2.1, cI x_c.2.2.2.1, cI x_c.2.2.2.2]), (a1, .lst (List.map (cL cS) x_items))] _
  obtain ⟨v3, hv3, hm⟩ := lt_some hm
  refine dss_setN (cc := .lst (List.map (cL cS) v3)) (ω1 := [(a_c, .lst [(cL cI) x_c.1, cI x_c.2.1, cI x_c.2.2.1, cI x_c.2.2.2.1, cI x_c.2.2.2.2]), (a1, .lst (List.map (cL cS) x_items))]) 3 (dn_is (c := .lst (List.map (cL cS) ([] : List (List Wd)))) (dn_lst (ps := List.map (cL cS) ([] : List (List Wd))) da_nil) (by rw [hv3])) (fun a2 => ?_)
  change DSs _ _ [some (.adr a_c), some (.v ((cL (cL cS)) x_items)), some (.adr a1), some (.adr a2)] [(a_c, .lst [(cL cI) x_c.1, cI x_c.2.1, cI x_c.2.2.1, cI x_c.2.2.2.1, cI x_c.2.2.2.2]), (a1, .lst (List.map (cL cS) x_items)), (a2, .lst (List.map (cL cS) v3))] _
  obtain ⟨s5, hs5, hm⟩ := bnd hm
  refine dss_whileS _ (fun (s4 : CS × (List (List Wd)) × (List (List Wd))) => [some (.adr a_c), some (.v ((cL (cL cS)) x_items)), some (.adr a1), some (.adr a2)]) (fun (s4 : CS × (List (List Wd)) × (List (List Wd))) => [(a_c, .lst [(cL cI) s4.1.1, cI s4.1.2.1, cI s4.1.2.2.1, cI s4.1.2.2.2.1, cI s4.1.2.2.2.2]), (a1, .lst (List.map (cL cS) s4.2.1)), (a2, .lst (List.map (cL cS) s4.2.2))]) _ _ _ _ hs5 ⟨.inr rfl, .inr rfl, .inr rfl, .inr rfl, trivial⟩ ⟨[0, 1, 2], rfl, by decide⟩ ?_ ?_ ?_ PassesOwn.never
  · intro s4 b hm
    have hq := some_i hm
    subst hq
    exact (dt_truCt (c := (cL cS)) (xs := s4.2.1) 1 (de_var (d := .adr a1) 2))
  · intro s4 k ht hm
    change DSs _ _ [some (.adr a_c), some (.v ((cL (cL cS)) x_items)), some (.adr a1), some (.adr a2)] [(a_c, .lst [(cL cI) s4.1.1, cI s4.1.2.1, cI s4.1.2.2.1, cI s4.1.2.2.2.1, cI s4.1.2.2.2.2]), (a1, .lst (List.map (cL cS) s4.2.1)), (a2, .lst (List.map (cL cS) s4.2.2))] _
    obtain ⟨r6, hr6, hm⟩ := bnd hm
    obtain ⟨hg7, hm⟩ := gd_some hm
    obtain ⟨x8, hx8, hm⟩ := bnd hm
    obtain ⟨hg9, hm⟩ := gd_some hm
    refine dss_expr (ω1 := [(a_c, .lst [(cL cI) r6.2.1, cI r6.2.2.1, cI r6.2.2.2.1, cI r6.2.2.2.2.1, cI r6.2.2.2.2.2]), (a1, .lst (List.map (cL cS) x8.2)), (a2, .lst (List.map (cL cS) (s4.2.2 ++ [x8.1])))]) (de_appendT (c := (cL cS)) (xs := s4.2.2) (x := x8.1) (ω' := [(a_c, .lst [(cL cI) r6.2.1, cI r6.2.2.1, cI r6.2.2.2.1, cI r6.2.2.2.2.1, cI r6.2.2.2.2.2]), (a1, .lst (List.map (cL cS) x8.2)), (a2, .lst (List.map (cL cS) (s4.2.2 ++ [x8.1])))]) 2 (de_var (d := .adr a2) 3) (de_popT (c := (cL cS)) (xs := s4.2.1) (y := x8) (ω' := [(a_c, .lst [(cL cI) r6.2.1, cI r6.2.2.1, cI r6.2.2.2.1, cI r6.2.2.2.2.1, cI r6.2.2.2.2.2]), (a1, .lst (List.map (cL cS) x8.2)), (a2, .lst (List.map (cL cS) s4.2.2))]) 1 (de_var (d := .adr a1) 2) (de_call (d := .v (cI r6.1)) (ωp := [(a_c, .lst [(cL cI) s4.1.1, cI s4.1.2.1, cI s4.1.2.2.1, cI s4.1.2.2.2.1, cI s4.1.2.2.2.2])]) (ωp' := [(a_c, .lst [(cL cI) r6.2.1, cI r6.2.2.1, cI r6.2.2.2.1, cI r6.2.2.2.2.1, cI r6.2.2.2.2.2])]) (ωr := [(a1, .lst (List.map (cL cS) s4.2.1)), (a2, .lst (List.map (cL cS) s4.2.2))]) (ω2 := [(a_c, .lst [(cL cI) r6.2.1, cI r6.2.2.1, cI r6.2.2.2.1, cI r6.2.2.2.2.1, cI r6.2.2.2.2.2]), (a1, .lst (List.map (cL cS) s4.2.1)), (a2, .lst (List.map (cL cS) s4.2.2))]) (ok_law_take T) (hr.mono (by decide)) T.m_law_take T.F_law_take.kp T.b_law_take (da_cons (de_var (d := .adr a_c) 0) (da_cons (de_lenLt (c := (cL cS)) (xs := s4.2.1) T.z_len (de_var (d := .adr a1) 2) (lc 1)) da_nil)) ⟨(a_c, s4.1, (s4.2.1.length : Int)), r6, rfl, rfl, hr6, rfl⟩ (fun _ _ h => h) [0, 1, 2] [0, 1, 2]) hx8 hg7) hg9) ?_
    have hq := some_i hm
    subst hq
    exact dss_nil ⟨_, _, .inl rfl, ⟨.inr rfl, .inr rfl, .inr rfl, .inr rfl, trivial⟩, ⟨[0, 1, 2], rfl, by decide⟩⟩
  change DSs _ _ [some (.adr a_c), some (.v ((cL (cL cS)) x_items)), some (.adr a1), some (.adr a2)] [(a_c, .lst [(cL cI) s5.1.1, cI s5.1.2.1, cI s5.1.2.2.1, cI s5.1.2.2.2.1, cI s5.1.2.2.2.2]), (a1, .lst (List.map (cL cS) s5.2.1)), (a2, .lst (List.map (cL cS) s5.2.2))] _
  refine dss_frz (ps := List.map (cL cS) s5.2.2) (ω' := [(a_c, .lst [(cL cI) s5.1.1, cI s5.1.2.1, cI s5.1.2.2.1, cI s5.1.2.2.2.1, cI s5.1.2.2.2.2]), (a1, .lst (List.map (cL cS) s5.2.1))]) 3 [0, 1, 2] rfl rfl (by decide) ?_
  change DSs _ _ [some (.adr a_c), some (.v ((cL (cL cS)) x_items)), some (.adr a1), some (.v ((cL (cL cS)) s5.2.2))] _ _
  have hq := some_i hm
  subst hq
  exact dss_ret (ω1 := [(a_c, .lst [(cL cI) s5.1.1, cI s5.1.2.1, cI s5.1.2.2.1, cI s5.1.2.2.2.1, cI s5.1.2.2.2.2])]) (de_drop (de_var (d := .v ((cL (cL cS)) s5.2.2)) 3) ⟨[0], rfl, by decide⟩) (by first | exact ⟨rfl, rfl⟩ | exact ⟨⟨rfl, rfl⟩, fun z => z⟩ | exact ⟨⟨⟨rfl, rfl⟩, fun z => z⟩, fun z => z⟩ | exact ⟨⟨⟨⟨rfl, rfl⟩, fun z => z⟩, fun z => z⟩, fun z => z⟩)
end
end K44
end

section
set_option Elab.async false
set_option linter.all false
set_option maxRecDepth 100000
set_option maxHeartbeats 4000000
namespace K44
open PySem L2 Q TL
section
variable {P : Program} {w : World} {K : PySem.W.Frag} {mg : Str → Option Value} {base : Heap}
theorem ok_law_word (T : Txt P K mg) : FnOk P w K mg base CX0 3 T.f_law_word T.d_law_word ["c", "letters", "most"] (SpC (Mir (A := Addr × CS × Wd × Int) (fun x => m_law_word x.2.1 x.2.2.1 x.2.2.2) (fun x => [.adr x.1, .v (cS x.2.2.1), .v (cI x.2.2.2)]) (fun x => [(x.1, .lst [(cL cI) x.2.1.1, cI x.2.1.2.1, cI x.2.1.2.2.1, cI x.2.1.2.2.2.1, cI x.2.1.2.2.2.2])]) (fun x t => .v (cS t.1)) (fun x t => [(x.1, .lst [(cL cI) t.2.1, cI t.2.2.1, cI t.2.2.2.1, cI t.2.2.2.2.1, cI t.2.2.2.2.2])]))) := by
  refine fn_d (k := 2) T.F_law_word sc_law_word (by rintro _ _ _ ⟨x, t, rfl, _⟩; rfl) (by decide) fun cdv A outer s H E ds ω Pr hr hR => ?_
  obtain ⟨x, t, rfl, rfl, hm, rfl⟩ := hR
  obtain ⟨a_c, x_c, x_letters, x_most⟩ := x
  have nd := sc_law_word.nd
  have hu := hr.units
  change m_law_word x_c x_letters x_most = some t at hm
  unfold m_law_word at hm
  change DSs _ _ [some (.adr a_c), some (.v (cS x_letters)), some (.v (cI x_most)), none] [(a_c, .lst [(cL cI) x_c.1, cI x_c.2.1, cI x_c.2.2.1, cI x_c.2.2.2.1, cI x_c.2.2.2.2])] _
  obtain ⟨r1, hr1, hm⟩ := bnd hm
  obtain ⟨hg2, hm⟩ := gd_some hm
  obtain ⟨l9, hl9, hm⟩ := bnd hm
  obtain ⟨hg10, hm⟩ := gd_some hm
  have hq := some_i hm
  subst hq
  exact dss_ret (ω1 := [(a_c, .lst [(cL cI) l9.2.1, cI l9.2.2.1, cI l9.2.2.2.1, cI l9.2.2.2.2.1, cI l9.2.2.2.2.2])]) (de_join (ws := l9.1) (de_str ([] : Wd)) (de_froz (dn_of (comp_d (cy := cS) [("k", 3)] (.nm 3) _ (fun x => .v (cI x)) (fun s6 => [(a_c, .lst [(cL cI) s6.1, cI s6.2.1, cI s6.2.2.1, cI s6.2.2.2.1, cI s6.2.2.2.2])]) _ _ _ hl9 (di_range T.z_range (de_call (d := .v (cI r1.1)) (ωp := [(a_c, .lst [(cL cI) x_c.1, cI x_c.2.1, cI x_c.2.2.1, cI x_c.2.2.2.1, cI x_c.2.2.2.2])]) (ωp' := [(a_c, .lst [(cL cI) r1.2.1, cI r1.2.2.1, cI r1.2.2.2.1, cI r1.2.2.2.2.1, cI r1.2.2.2.2.2])]) (ωr := []) (ω2 := [(a_c, .lst [(cL cI) r1.2.1, cI r1.2.2.1, cI r1.2.2.2.1, cI r1.2.2.2.2.1, cI r1.2.2.2.2.2])]) (ok_law_take T) (hr.mono (by decide)) T.m_law_take T.F_law_take.kp T.b_law_take (da_cons (de_var (d := .adr a_c) 0) (da_cons (de_add (de_var (d := .v (cI x_most)) 2) de_int) da_nil)) ⟨(a_c, x_c, (x_most + 1)), r1, rfl, rfl, hr1, rfl⟩ (fun _ _ h => h) [0] [0]) hg2.1 hg2.2) (Pk.refl _) (blkOk_by (N := ["c", "letters", "most", "k"]) (sc := defScope s_law_word) (own := [("k", 3)]) (by decide +kernel)) (fun _ _ _ _ _ => pg_name (i := 3) nd rfl (by first | exact Or.inl rfl | exact Or.inr rfl)) (by intro i hi; revert i hi; decide) (fun _ => rfl) (fun _ _ _ _ hb _ _ _ _ _ => by cases (some_i hb); exact dts_nil) (fun e3 s6 _ hx _ hb _ _ _ _ _ => by
          have hm := hb
          obtain ⟨r7, hr7, hm⟩ := bnd hm
          obtain ⟨z8, hz8, hm⟩ := bnd hm
          have hq := some_i hm
          subst hq
          exact (de_ixS (de_var (d := .v (cS x_letters)) 1) (de_call (d := .v (cI r7.1)) (ωp := [(a_c, .lst [(cL cI) s6.1, cI s6.2.1, cI s6.2.2.1, cI s6.2.2.2.1, cI s6.2.2.2.2])]) (ωp' := [(a_c, .lst [(cL cI) r7.2.1, cI r7.2.2.1, cI r7.2.2.2.1, cI r7.2.2.2.2.1, cI r7.2.2.2.2.2])]) (ωr := []) (ω2 := [(a_c, .lst [(cL cI) r7.2.1, cI r7.2.2.1, cI r7.2.2.2.1, cI r7.2.2.2.2.1, cI r7.2.2.2.2.2])]) (ok_law_take T) (hr.mono (by decide)) T.m_law_take T.F_law_take.kp T.b_law_take (da_cons (de_var (d := .adr a_c) 0) (da_cons (de_lenS T.z_len (de_var (d := .v (cS x_letters)) 1)) da_nil)) ⟨(a_c, s6, (x_letters.length : Int)), r7, rfl, rfl, hr7, rfl⟩ (fun _ _ h => h) [0] [0]) hz8))))) lv hg10) (by first | exact ⟨rfl, rfl⟩ | exact ⟨⟨rfl, rfl⟩, fun z => z⟩ | exact ⟨⟨⟨rfl, rfl⟩, fun z => z⟩, fun z => z⟩ | exact ⟨⟨⟨⟨rfl, rfl⟩, fun z => z⟩, fun z => z⟩, fun z => z⟩)
end
end K44
end

section
set_option Elab.async false
set_option linter.all false
set_option maxRecDepth 100000
set_option maxHeartbeats 4000000
namespace K44
open PySem L2 Q TL
section
variable {P : Program} {w : World} {K : PySem.W.Frag} {mg : Str → Option Value} {base : Heap}
theorem ok_law_once (T : Txt P K mg) : FnOk P w K mg base CX0 1 T.f_law_once T.d_law_once ["rows"] (SpC (Mir (A := (List PW)) (fun x => m_law_once x) (fun x => [.v ((cL cPW) x)]) (fun x => []) (fun x t => .v ((cT cPW) t)) (fun x t => []))) := by
  refine fn_d (k := 0) T.F_law_once sc_law_once (by rintro _ _ _ ⟨x, t, rfl, _⟩; rfl) (by decide) fun cdv A outer s H E ds ω Pr hr hR => ?_
  obtain ⟨x_rows, t, rfl, rfl, hm, rfl⟩ := hR
  skip
  have nd := sc_law_once.nd
  have hu := hr.units
  change m_law_once x_rows = some t at hm
  unfold m_law_once at hm
  change DSs _ _ [some (.v ((cL cPW) x_rows)), none, none] [] _
  obtain ⟨v2, hv2, hm⟩ := lt_some hm
  refine dss_setN (cc := .lst (List.map cPW v2)) (ω1 := []) 1 (dn_is (c := .lst (List.map cPW ([] : List PW))) (dn_lst (ps := List.map cPW ([] : List PW)) da_nil) (by rw [hv2])) (fun a1 => ?_)
  change DSs _ _ [some (.v ((cL cPW) x_rows)), some (.adr a1), none] [(a1, .lst (List.map cPW v2))] _
  obtain ⟨s4, hs4, hm⟩ := bnd hm
  refine dss_forS (.nm 2) _ (fun x => .v (cPW x)) (fun (s3 : (List PW)) => [some (.v ((cL cPW) x_rows)), some (.adr a1), none]) (fun (s3 : (List PW)) => [(a1, .lst (List.map cPW s3))]) _ _ _ hs4 (di_listT (c := cPW) (de_froz (dn_sortedL (c := cPW) (xs := x_rows) hr (al_of (by intro _ _; rfl)) (so_tup (by intro _; exact ⟨_, _, rfl⟩)) (by intro _; exact Nat.le_of_ble_eq_true rfl) T.z_sorted (de_var (d := .v ((cL cPW) x_rows)) 0) lv))) (pg_name (i := 2) nd rfl (by first | exact Or.inl rfl | exact Or.inr rfl)) ⟨.inr rfl, .inr rfl, .inl rfl, trivial⟩ ⟨[0], rfl, by decide⟩ (fun _ => rfl) ?_ ?_ PassesOwn.never
  · intro e5 s3 k hx hm
    change DSs _ _ [some (.v ((cL cPW) x_rows)), some (.adr a1), some (.v (cPW e5))] [(a1, .lst (List.map cPW s3))] _
    obtain ⟨b7, hb7, hm⟩ := bnd hm
    refine dss_if2 (ω1 := [(a1, .lst (List.map cPW s3))]) (dt_bool (dw_is (dw_or (dt_not (dt_truCt (c := cPW) (xs := s3) 0 (de_var (d := .adr a1) 1))) (fun hk8 => by
        have hm := cnd_f hk8 hb7
        obtain ⟨x6, hx6, hm⟩ := bnd hm
        have hq := some_i hm
        subst hq
        exact (dw_or1 (dt_c (de_ixLt (c := cPW) (de_var (d := .adr a1) 1) (de_sub de_int de_int) (lc 0) hx6) (de_var (d := .v (cPW e5)) 2) (c_neP hu (by simp [PyData.depth, PyData.depthAll]) (by simp [PyData.depth, PyData.depthAll]))))) (fun _ => rfl)) (or_val hb7))) (fun hk => ?_) (fun hk => ?_)
    · have hm := cnd_t hk hm
      obtain ⟨hg9, hm⟩ := gd_some hm
      refine dss_expr (ω1 := [(a1, .lst (List.map cPW (s3 ++ [e5])))]) (de_appendT (c := cPW) (xs := s3) (x := e5) (ω' := [(a1, .lst (List.map cPW (s3 ++ [e5])))]) 0 (de_var (d := .adr a1) 1) (de_var (d := .v (cPW e5)) 2) hg9) ?_
      have hq := some_i hm
      subst hq
      exact dss_nil ⟨_, _, .inl rfl, ⟨.inr rfl, .inr rfl, .inl rfl, trivial⟩, ⟨[0], rfl, by decide⟩⟩
    · have hm := cnd_f hk hm
      have hq := some_i hm
      subst hq
      exact dss_nil ⟨_, _, .inl rfl, ⟨.inr rfl, .inr rfl, .inl rfl, trivial⟩, ⟨[0], rfl, by decide⟩⟩
  change DSs _ _ [some (.v ((cL cPW) x_rows)), some (.adr a1), none] [(a1, .lst (List.map cPW s4))] _
  have hq := some_i hm
  subst hq
  exact dss_ret (ω1 := []) (de_drop (de_tupleL (ps := List.map cPW s4) T.z_tuple (de_var (d := .adr a1) 1) (lc 0)) ⟨[], rfl, by decide⟩) (by first | exact ⟨rfl, rfl⟩ | exact ⟨⟨rfl, rfl⟩, fun z => z⟩ | exact ⟨⟨⟨rfl, rfl⟩, fun z => z⟩, fun z => z⟩ | exact ⟨⟨⟨⟨rfl, rfl⟩, fun z => z⟩, fun z => z⟩, fun z => z⟩)
end
end K44
end

section
set_option Elab.async false
set_option linter.all false
set_option maxRecDepth 100000
set_option maxHeartbeats 4000000
namespace K44
open PySem L2 Q TL
section
variable {P : Program} {w : World} {K : PySem.W.Frag} {mg : Str → Option Value} {base : Heap}
theorem ok_law_once_E (T : Txt P K mg) : FnOk P w K mg base CX0 1 T.f_law_once T.d_law_once ["rows"] (SpC (Mir (A := (List EW)) (fun x => m_law_once_E x) (fun x => [.v ((cL cEW) x)]) (fun x => []) (fun x t => .v ((cT cEW) t)) (fun x t => []))) := by
  refine fn_d (k := 0) T.F_law_once sc_law_once (by rintro _ _ _ ⟨x, t, rfl, _⟩; rfl) (by decide) fun cdv A outer s H E ds ω Pr hr hR => ?_
  obtain ⟨x_rows, t, rfl, rfl, hm, rfl⟩ := hR
  skip
  have nd := sc_law_once.nd
  have hu := hr.units
  change m_law_once_E x_rows = some t at hm
  unfold m_law_once_E at hm
  change DSs _ _ [some (.v ((cL cEW) x_rows)), none, none] [] _
  obtain ⟨v2, hv2, hm⟩ := lt_some hm
  refine dss_setN (cc := .lst (List.map cEW v2)) (ω1 := []) 1 (dn_is (c := .lst (List.map cEW ([] : List EW))) (dn_lst (ps := List.map cEW ([] : List EW)) da_nil) (by rw [hv2])) (fun a1 => ?_)
  change DSs _ _ [some (.v ((cL cEW) x_rows)), some (.adr a1), none] [(a1, .lst (List.map cEW v2))] _
  obtain ⟨s4, hs4, hm⟩ := bnd hm
  refine dss_forS (.nm 2) _ (fun x => .v (cEW x)) (fun (s3 : (List EW)) => [some (.v ((cL cEW) x_rows)), some (.adr a1), none]) (fun (s3 : (List EW)) => [(a1, .lst (List.map cEW s3))]) _ _ _ hs4 (di_listT (c := cEW) (de_froz (dn_sortedL (c := cEW) (xs := x_rows) hr (al_of (by intro _ _; rfl)) (so_tup (by intro _; exact ⟨_, _, rfl⟩)) (by intro _; exact Nat.le_of_ble_eq_true rfl) T.z_sorted (de_var (d := .v ((cL cEW) x_rows)) 0) lv))) (pg_name (i := 2) nd rfl (by first | exact Or.inl rfl | exact Or.inr rfl)) ⟨.inr rfl, .inr rfl, .inl rfl, trivial⟩ ⟨[0], rfl, by decide⟩ (fun _ => rfl) ?_ ?_ PassesOwn.never
  · intro e5 s3 k hx hm
    change DSs _ _ [some (.v ((cL cEW) x_rows)), some (.adr a1), some (.v (cEW e5))] [(a1, .lst (List.map cEW s3))] _
    obtain ⟨b7, hb7, hm⟩ := bnd hm
    refine dss_if2 (ω1 := [(a1, .lst (List.map cEW s3))]) (dt_bool (dw_is (dw_or (dt_not (dt_truCt (c := cEW) (xs := s3) 0 (de_var (d := .adr a1) 1))) (fun hk8 => by
        have hm := cnd_f hk8 hb7
        obtain ⟨x6, hx6, hm⟩ := bnd hm
        have hq := some_i hm
        subst hq
        exact (dw_or1 (dt_c (de_ixLt (c := cEW) (de_var (d := .adr a1) 1) (de_sub de_int de_int) (lc 0) hx6) (de_var (d := .v (cEW e5)) 2) (c_neP hu (by simp [PyData.depth, PyData.depthAll]) (by simp [PyData.depth, PyData.depthAll]))))) (fun _ => rfl)) (or_val hb7))) (fun hk => ?_) (fun hk => ?_)
    · have hm := cnd_t hk hm
      obtain ⟨hg9, hm⟩ := gd_some hm
      refine dss_expr (ω1 := [(a1, .lst (List.map cEW (s3 ++ [e5])))]) (de_appendT (c := cEW) (xs := s3) (x := e5) (ω' := [(a1, .lst (List.map cEW (s3 ++ [e5])))]) 0 (de_var (d := .adr a1) 1) (de_var (d := .v (cEW e5)) 2) hg9) ?_
      have hq := some_i hm
      subst hq
      exact dss_nil ⟨_, _, .inl rfl, ⟨.inr rfl, .inr rfl, .inl rfl, trivial⟩, ⟨[0], rfl, by decide⟩⟩
    · have hm := cnd_f hk hm
      have hq := some_i hm
      subst hq
      exact dss_nil ⟨_, _, .inl rfl, ⟨.inr rfl, .inr rfl, .inl rfl, trivial⟩, ⟨[0], rfl, by decide⟩⟩
  change DSs _ _ [some (.v ((cL cEW) x_rows)), some (.adr a1), none] [(a1, .lst (List.map cEW s4))] _
  have hq := some_i hm
  subst hq
  exact dss_ret (ω1 := []) (de_drop (de_tupleL (ps := List.map cEW s4) T.z_tuple (de_var (d := .adr a1) 1) (lc 0)) ⟨[], rfl, by decide⟩) (by first | exact ⟨rfl, rfl⟩ | exact ⟨⟨rfl, rfl⟩, fun z => z⟩ | exact ⟨⟨⟨rfl, rfl⟩, fun z => z⟩, fun z => z⟩ | exact ⟨⟨⟨⟨rfl, rfl⟩, fun z => z⟩, fun z => z⟩, fun z => z⟩)
end
end K44
end

section
set_option Elab.async false
set_option linter.all false
set_option maxRecDepth 100000
set_option maxHeartbeats 4000000
namespace K44
open PySem L2 Q TL
section
variable {P : Program} {w : World} {K : PySem.W.Frag} {mg : Str → Option Value} {base : Heap}
theorem ok_law_once_L (T : Txt P K mg) : FnOk P w K mg base CX0 1 T.f_law_once T.d_law_once ["rows"] (SpC (Mir (A := (List PyData)) (fun x => m_law_once_L x) (fun x => [.v ((cL cP) x)]) (fun x => []) (fun x t => .v ((cT cP) t)) (fun x t => []))) := by
  refine fn_d (k := 0) T.F_law_once sc_law_once (by rintro _ _ _ ⟨x, t, rfl, _⟩; rfl) (by decide) fun cdv A outer s H E ds ω Pr hr hR => ?_
  obtain ⟨x_rows, t, rfl, rfl, hm, rfl⟩ := hR
  skip
  have nd := sc_law_once.nd
  have hu := hr.units
  change m_law_once_L x_rows = some t at hm
  unfold m_law_once_L at hm
  change DSs _ _ [some (.v ((cL cP) x_rows)), none, none] [] _
  obtain ⟨v2, hv2, hm⟩ := lt_some hm
  refine dss_setN (cc := .lst (List.map cP v2)) (ω1 := []) 1 (dn_is (c := .lst (List.map cP ([] : List PyData))) (dn_lst (ps := List.map cP ([] : List PyData)) da_nil) (by rw [hv2])) (fun a1 => ?_)
  change DSs _ _ [some (.v ((cL cP) x_rows)), some (.adr a1), none] [(a1, .lst (List.map cP v2))] _
  obtain ⟨x3, hx3, hm⟩ := bnd hm
  obtain ⟨s5, hs5, hm⟩ := bnd hm
  refine dss_forS (.nm 2) _ (fun x => .v (cP x)) (fun (s4 : (List PyData)) => [some (.v ((cL cP) x_rows)), some (.adr a1), none]) (fun (s4 : (List PyData)) => [(a1, .lst (List.map cP s4))]) _ _ _ hs5 (di_listT (c := cP) (de_froz (dn_sortedLP (xs := x_rows) hr hx3 T.z_sorted (de_var (d := .v ((cL cP) x_rows)) 0) lv))) (pg_name (i := 2) nd rfl (by first | exact Or.inl rfl | exact Or.inr rfl)) ⟨.inr rfl, .inr rfl, .inl rfl, trivial⟩ ⟨[0], rfl, by decide⟩ (fun _ => rfl) ?_ ?_ PassesOwn.never
  · intro e6 s4 k hx hm
    change DSs _ _ [some (.v ((cL cP) x_rows)), some (.adr a1), some (.v e6)] [(a1, .lst (List.map cP s4))] _
    obtain ⟨b10, hb10, hm⟩ := bnd hm
    refine dss_if2 (ω1 := [(a1, .lst (List.map cP s4))]) (dt_bool (dw_is (dw_or (dt_not (dt_truCt (c := cP) (xs := s4) 0 (de_var (d := .adr a1) 1))) (fun hk11 => by
        have hm := cnd_f hk11 hb10
        obtain ⟨x7, hx7, hm⟩ := bnd hm
        obtain ⟨hg8, hm⟩ := gd_some hm
        obtain ⟨hg9, hm⟩ := gd_some hm
        have hq := some_i hm
        subst hq
        exact (dw_or1 (dt_c (de_ixLt (c := cP) (de_var (d := .adr a1) 1) (de_sub de_int de_int) (lc 0) hx7) (de_var (d := .v e6) 2) (c_neP hu hg8 hg9)))) (fun _ => rfl)) (or_val hb10))) (fun hk => ?_) (fun hk => ?_)
    · have hm := cnd_t hk hm
      obtain ⟨hg12, hm⟩ := gd_some hm
      refine dss_expr (ω1 := [(a1, .lst (List.map cP (s4 ++ [e6])))]) (de_appendT (c := cP) (xs := s4) (x := e6) (ω' := [(a1, .lst (List.map cP (s4 ++ [e6])))]) 0 (de_var (d := .adr a1) 1) (de_var (d := .v e6) 2) hg12) ?_
      have hq := some_i hm
      subst hq
      exact dss_nil ⟨_, _, .inl rfl, ⟨.inr rfl, .inr rfl, .inl rfl, trivial⟩, ⟨[0], rfl, by decide⟩⟩
    · have hm := cnd_f hk hm
      have hq := some_i hm
      subst hq
      exact dss_nil ⟨_, _, .inl rfl, ⟨.inr rfl, .inr rfl, .inl rfl, trivial⟩, ⟨[0], rfl, by decide⟩⟩
  change DSs _ _ [some (.v ((cL cP) x_rows)), some (.adr a1), none] [(a1, .lst (List.map cP s5))] _
  have hq := some_i hm
  subst hq
  exact dss_ret (ω1 := []) (de_drop (de_tupleL (ps := List.map cP s5) T.z_tuple (de_var (d := .adr a1) 1) (lc 0)) ⟨[], rfl, by decide⟩) (by first | exact ⟨rfl, rfl⟩ | exact ⟨⟨rfl, rfl⟩, fun z => z⟩ | exact ⟨⟨⟨rfl, rfl⟩, fun z => z⟩, fun z => z⟩ | exact ⟨⟨⟨⟨rfl, rfl⟩, fun z => z⟩, fun z => z⟩, fun z => z⟩)
end
end K44
end

section
set_option Elab.async false
set_option linter.all false
set_option maxRecDepth 100000
set_option maxHeartbeats 4000000
namespace K44
open PySem L2 Q TL
section
variable {P : Program} {w : World} {K : PySem.W.Frag} {mg : Str → Option Value} {base : Heap}
theorem ok_law_once_P (T : Txt P K mg) : FnOk P w K mg base CX0 1 T.f_law_once T.d_law_once ["rows"] (SpC (Mir (A := PyData) (fun x => m_law_once_P x) (fun x => [.v x]) (fun x => []) (fun x t => .v ((cT cP) t)) (fun x t => []))) := by
  refine fn_d (k := 0) T.F_law_once sc_law_once (by rintro _ _ _ ⟨x, t, rfl, _⟩; rfl) (by decide) fun cdv A outer s H E ds ω Pr hr hR => ?_
  obtain ⟨x_rows, t, rfl, rfl, hm, rfl⟩ := hR
  skip
  have nd := sc_law_once.nd
  have hu := hr.units
  change m_law_once_P x_rows = some t at hm
  unfold m_law_once_P at hm
  change DSs _ _ [some (.v x_rows), none, none] [] _
  obtain ⟨v2, hv2, hm⟩ := lt_some hm
  refine dss_setN (cc := .lst (List.map cP v2)) (ω1 := []) 1 (dn_is (c := .lst (List.map cP ([] : List PyData))) (dn_lst (ps := List.map cP ([] : List PyData)) da_nil) (by rw [hv2])) (fun a1 => ?_)
  change DSs _ _ [some (.v x_rows), some (.adr a1), none] [(a1, .lst (List.map cP v2))] _
  obtain ⟨x3, hx3, hm⟩ := bnd hm
  obtain ⟨x4, hx4, hm⟩ := bnd hm
  obtain ⟨s6, hs6, hm⟩ := bnd hm
  refine dss_forS (.nm 2) _ (fun x => .v (cP x)) (fun (s5 : (List PyData)) => [some (.v x_rows), some (.adr a1), none]) (fun (s5 : (List PyData)) => [(a1, .lst (List.map cP s5))]) _ _ _ hs6 (di_listT (c := cP) (de_froz (dn_sortedTP (xs := x3) hr hx4 T.z_sorted (de_asT (de_var (d := .v x_rows) 0) hx3) ))) (pg_name (i := 2) nd rfl (by first | exact Or.inl rfl | exact Or.inr rfl)) ⟨.inr rfl, .inr rfl, .inl rfl, trivial⟩ ⟨[0], rfl, by decide⟩ (fun _ => rfl) ?_ ?_ PassesOwn.never
  · intro e7 s5 k hx hm
    change DSs _ _ [some (.v x_rows), some (.adr a1), some (.v e7)] [(a1, .lst (List.map cP s5))] _
    obtain ⟨b11, hb11, hm⟩ := bnd hm
    refine dss_if2 (ω1 := [(a1, .lst (List.map cP s5))]) (dt_bool (dw_is (dw_or (dt_not (dt_truCt (c := cP) (xs := s5) 0 (de_var (d := .adr a1) 1))) (fun hk12 => by
        have hm := cnd_f hk12 hb11
        obtain ⟨x8, hx8, hm⟩ := bnd hm
        obtain ⟨hg9, hm⟩ := gd_some hm
        obtain ⟨hg10, hm⟩ := gd_some hm
        have hq := some_i hm
        subst hq
        exact (dw_or1 (dt_c (de_ixLt (c := cP) (de_var (d := .adr a1) 1) (de_sub de_int de_int) (lc 0) hx8) (de_var (d := .v e7) 2) (c_neP hu hg9 hg10)))) (fun _ => rfl)) (or_val hb11))) (fun hk => ?_) (fun hk => ?_)
    · have hm := cnd_t hk hm
      obtain ⟨hg13, hm⟩ := gd_some hm
      refine dss_expr (ω1 := [(a1, .lst (List.map cP (s5 ++ [e7])))]) (de_appendT (c := cP) (xs := s5) (x := e7) (ω' := [(a1, .lst (List.map cP (s5 ++ [e7])))]) 0 (de_var (d := .adr a1) 1) (de_var (d := .v e7) 2) hg13) ?_
      have hq := some_i hm
      subst hq
      exact dss_nil ⟨_, _, .inl rfl, ⟨.inr rfl, .inr rfl, .inl rfl, trivial⟩, ⟨[0], rfl, by decide⟩⟩
    · have hm := cnd_f hk hm
      have hq := some_i hm
      subst hq
      exact dss_nil ⟨_, _, .inl rfl, ⟨.inr rfl, .inr rfl, .inl rfl, trivial⟩, ⟨[0], rfl, by decide⟩⟩
  change DSs _ _ [some (.v x_rows), some (.adr a1), none] [(a1, .lst (List.map cP s6))] _
  have hq := some_i hm
  subst hq
  exact dss_ret (ω1 := []) (de_drop (de_tupleL (ps := List.map cP s6) T.z_tuple (de_var (d := .adr a1) 1) (lc 0)) ⟨[], rfl, by decide⟩) (by first | exact ⟨rfl, rfl⟩ | exact ⟨⟨rfl, rfl⟩, fun z => z⟩ | exact ⟨⟨⟨rfl, rfl⟩, fun z => z⟩, fun z => z⟩ | exact ⟨⟨⟨⟨rfl, rfl⟩, fun z => z⟩, fun z => z⟩, fun z => z⟩)
end
end K44
end

section
set_option Elab.async false
set_option linter.all false
set_option maxRecDepth 100000
set_option maxHeartbeats 4000000
namespace K44
open PySem L2 Q TL
section
variable {P : Program} {w : World} {K : PySem.W.Frag} {mg : Str → Option Value} {base : Heap}
theorem ok_law_machine (T : Txt P K mg) : FnOk P w K mg base CX0 4 T.f_law_machine T.d_law_machine ["c", "parts"] (SpC (Mir (A := Addr × CS × Parts) (fun x => m_law_machine x.2.1 x.2.2) (fun x => [.adr x.1, .v (cParts x.2.2)]) (fun x => [(x.1, .lst [(cL cI) x.2.1.1, cI x.2.1.2.1, cI x.2.1.2.2.1, cI x.2.1.2.2.2.1, cI x.2.1.2.2.2.2])]) (fun x t => .v (cMach t.1)) (fun x t => [(x.1, .lst [(cL cI) t.2.1, cI t.2.2.1, cI t.2.2.2.1, cI t.2.2.2.2.1, cI t.2.2.2.2.2])]))) := by
  refine fn_d (k := 3) T.F_law_machine sc_law_machine (by rintro _ _ _ ⟨x, t, rfl, _⟩; rfl) (by decide) fun cdv A outer s H E ds ω Pr hr hR => ?_
  obtain ⟨x, t, rfl, rfl, hm, rfl⟩ := hR
  obtain ⟨a_c, x_c, x_parts⟩ := x
  have nd := sc_law_machine.nd
  have hu := hr.units
  change m_law_machine x_c x_parts = some t at hm
  unfold m_law_machine at hm
  change DSs _ _ [some (.adr a_c), some (.v (cParts x_parts)), none, none, none, none, none, none, none, none] [(a_c, .lst [(cL cI) x_c.1, cI x_c.2.1, cI x_c.2.2.1, cI x_c.2.2.2.1, cI x_c.2.2.2.2])] _
  refine dss_asg (d := .v (cParts x_parts)) (ω1 := [(a_c, .lst [(cL cI) x_c.1, cI x_c.2.1, cI x_c.2.2.1, cI x_c.2.2.2.1, cI x_c.2.2.2.2])]) (.ls [5, 6, 7, 8]) (de_var (d := .v (cParts x_parts)) 1) (pg_lst rfl (pgs_cons (pg_name (i := 5) nd rfl (by first | exact Or.inl rfl | exact Or.inr rfl)) (pgs_cons (pg_name (i := 6) nd rfl (by first | exact Or.inl rfl | exact Or.inr rfl)) (pgs_cons (pg_name (i := 7) nd rfl (by first | exact Or.inl rfl | exact Or.inr rfl)) (pgs_cons (pg_name (i := 8) nd rfl (by first | exact Or.inl rfl | exact Or.inr rfl)) (pgs_nil)))))) rfl ?_
  change DSs _ _ [some (.adr a_c), some (.v (cParts x_parts)), none, none, none, some (.v (cI x_parts.1)), some (.v ((cL cPW) x_parts.2.1)), some (.v ((cL cEW) x_parts.2.2.1)), some (.v ((cL cPW) x_parts.2.2.2)), none] _ _
  obtain ⟨hg1, hm⟩ := gd_some hm
  obtain ⟨r2, hr2, hm⟩ := bnd hm
  refine dss_set (d := .v ((cL cI) r2.1)) (ρ' := [some (.adr a_c), some (.v (cParts x_parts)), some (.v ((cL cI) r2.1)), none, none, some (.v (cI x_parts.1)), some (.v ((cL cPW) x_parts.2.1)), some (.v ((cL cEW) x_parts.2.2.1)), some (.v ((cL cPW) x_parts.2.2.2)), none]) (ω1 := [(a_c, .lst [(cL cI) r2.2.1, cI r2.2.2.1, cI r2.2.2.2.1, cI r2.2.2.2.2.1, cI r2.2.2.2.2.2])]) 2 (de_call (d := .v ((cL cI) r2.1)) (ωp := [(a_c, .lst [(cL cI) x_c.1, cI x_c.2.1, cI x_c.2.2.1, cI x_c.2.2.2.1, cI x_c.2.2.2.2])]) (ωp' := [(a_c, .lst [(cL cI) r2.2.1, cI r2.2.2.1, cI r2.2.2.2.1, cI r2.2.2.2.2.1, cI r2.2.2.2.2.2])]) (ωr := []) (ω2 := [(a_c, .lst [(cL cI) r2.2.1, cI r2.2.2.1, cI r2.2.2.2.1, cI r2.2.2.2.2.1, cI r2.2.2.2.2.2])]) (ok_law_shuffled T) (hr.mono (by decide)) T.m_law_shuffled T.F_law_shuffled.kp T.b_law_shuffled (da_cons (de_var (d := .adr a_c) 0) (da_cons (de_froz (dn_listRg rfl T.z_list T.z_range (de_var (d := .v (cI x_parts.1)) 5) hg1)) da_nil)) ⟨(a_c, x_c, rng 0 x_parts.1), r2, rfl, rfl, hr2, rfl⟩ (fun _ _ h => h) [0] [0]) ?_
  obtain ⟨l7, hl7, hm⟩ := bnd hm
  refine dss_setLC (d := .v ((cL cEW) l7.1)) (ρ' := [some (.adr a_c), some (.v (cParts x_parts)), some (.v ((cL cI) r2.1)), some (.v ((cL cEW) l7.1)), none, some (.v (cI x_parts.1)), some (.v ((cL cPW) x_parts.2.1)), some (.v ((cL cEW) x_parts.2.2.1)), some (.v ((cL cPW) x_parts.2.2.2)), none]) (ω1 := [(a_c, .lst [(cL cI) r2.2.1, cI r2.2.2.1, cI r2.2.2.2.1, cI r2.2.2.2.2.1, cI r2.2.2.2.2.2])]) 3 (comp_d (cy := cEW) [("row", 9)] (.nm 9) _ (fun x => .v (cEW x)) (fun s6 => [(a_c, .lst [(cL cI) r2.2.1, cI r2.2.2.1, cI r2.2.2.2.1, cI r2.2.2.2.2.1, cI r2.2.2.2.2.2])]) _ _ _ hl7 (di_listT (c := cEW) (de_var (d := .v ((cL cEW) x_parts.2.2.1)) 7)) (Pk.refl _) (blkOk_by (N := ["c", "parts", "name", "rows", "begun", "many", "starts", "edges", "ends", "row"]) (sc := defScope s_law_machine) (own := [("row", 9)]) (by decide +kernel)) (fun _ _ _ _ _ => pg_name (i := 9) nd rfl (by first | exact Or.inl rfl | exact Or.inr rfl)) (by intro i hi; revert i hi; decide) (fun _ => rfl) (fun _ _ _ _ hb _ _ _ _ _ => by cases (some_i hb); exact dts_nil) (fun e3 s6 _ hx _ hb _ _ _ _ _ => by
          have hm := hb
          obtain ⟨x4, hx4, hm⟩ := bnd hm
          obtain ⟨x5, hx5, hm⟩ := bnd hm
          have hq := some_i hm
          subst hq
          exact (de_tup (ps := [cI x4, cS e3.2.1, cS e3.2.2.1, cI x5]) (da_cons (de_ixLt (c := cI) (de_var (d := .v ((cL cI) r2.1)) 2) (de_ixT (p := cI e3.1) (de_var (d := .v (cEW e3)) 9) de_int rfl) lv hx4) (da_cons (de_ixT (p := cS e3.2.1) (de_var (d := .v (cEW e3)) 9) de_int rfl) (da_cons (de_ixT (p := cS e3.2.2.1) (de_var (d := .v (cEW e3)) 9) de_int rfl) (da_cons (de_ixLt (c := cI) (de_var (d := .v ((cL cI) r2.1)) 2) (de_ixT (p := cI e3.2.2.2) (de_var (d := .v (cEW e3)) 9) de_int rfl) lv hx5) da_nil))))))) ?_ (by rfl)
  obtain ⟨l11, hl11, hm⟩ := bnd hm
  refine dss_setLC (d := .v ((cL cPW) l11.1)) (ρ' := [some (.adr a_c), some (.v (cParts x_parts)), some (.v ((cL cI) r2.1)), some (.v ((cL cEW) l7.1)), some (.v ((cL cPW) l11.1)), some (.v (cI x_parts.1)), some (.v ((cL cPW) x_parts.2.1)), some (.v ((cL cEW) x_parts.2.2.1)), some (.v ((cL cPW) x_parts.2.2.2)), none]) (ω1 := [(a_c, .lst [(cL cI) r2.2.1, cI r2.2.2.1, cI r2.2.2.2.1, cI r2.2.2.2.2.1, cI r2.2.2.2.2.2])]) 4 (comp_d (cy := cPW) [("row", 9)] (.nm 9) _ (fun x => .v (cPW x)) (fun s10 => [(a_c, .lst [(cL cI) r2.2.1, cI r2.2.2.1, cI r2.2.2.2.1, cI r2.2.2.2.2.1, cI r2.2.2.2.2.2])]) _ _ _ hl11 (di_listT (c := cPW) (de_var (d := .v ((cL cPW) x_parts.2.1)) 6)) (Pk.refl _) (blkOk_by (N := ["c", "parts", "name", "rows", "begun", "many", "starts", "edges", "ends", "row"]) (sc := defScope s_law_machine) (own := [("row", 9)]) (by decide +kernel)) (fun _ _ _ _ _ => pg_name (i := 9) nd rfl (by first | exact Or.inl rfl | exact Or.inr rfl)) (by intro i hi; revert i hi; decide) (fun _ => rfl) (fun _ _ _ _ hb _ _ _ _ _ => by cases (some_i hb); exact dts_nil) (fun e8 s10 _ hx _ hb _ _ _ _ _ => by
          have hm := hb
          obtain ⟨x9, hx9, hm⟩ := bnd hm
          have hq := some_i hm
          subst hq
          exact (de_tup (ps := [cI x9, cS e8.2]) (da_cons (de_ixLt (c := cI) (de_var (d := .v ((cL cI) r2.1)) 2) (de_ixT (p := cI e8.1) (de_var (d := .v (cPW e8)) 9) de_int rfl) lv hx9) (da_cons (de_ixT (p := cS e8.2) (de_var (d := .v (cPW e8)) 9) de_int rfl) da_nil))))) ?_ (by rfl)
  obtain ⟨r12, hr12, hm⟩ := bnd hm
  obtain ⟨r13, hr13, hm⟩ := bnd hm
  obtain ⟨l17, hl17, hm⟩ := bnd hm
  obtain ⟨r18, hr18, hm⟩ := bnd hm
  have hq := some_i hm
  subst hq
  exact dss_ret (ω1 := [(a_c, .lst [(cL cI) r2.2.1, cI r2.2.2.1, cI r2.2.2.2.1, cI r2.2.2.2.2.1, cI r2.2.2.2.2.2])]) (de_tup (ps := [cI x_parts.1, (cT cPW) r12, (cT cEW) r13, (cT cPW) r18]) (da_cons (de_var (d := .v (cI x_parts.1)) 5) (da_cons (de_call (d := .v ((cT cPW) r12)) (ωp := []) (ωp' := []) (ωr := [(a_c, .lst [(cL cI) r2.2.1, cI r2.2.2.1, cI r2.2.2.2.1, cI r2.2.2.2.2.1, cI r2.2.2.2.2.2])]) (ω2 := [(a_c, .lst [(cL cI) r2.2.1, cI r2.2.2.1, cI r2.2.2.2.1, cI r2.2.2.2.2.1, cI r2.2.2.2.2.2])]) (ok_law_once T) (hr.mono (by decide)) T.m_law_once T.F_law_once.kp T.b_law_once (da_cons (de_var (d := .v ((cL cPW) l11.1)) 4) da_nil) ⟨l11.1, r12, rfl, rfl, hr12, rfl⟩ (fun _ _ h => h) [0] [0]) (da_cons (de_call (d := .v ((cT cEW) r13)) (ωp := []) (ωp' := []) (ωr := [(a_c, .lst [(cL cI) r2.2.1, cI r2.2.2.1, cI r2.2.2.2.1, cI r2.2.2.2.2.1, cI r2.2.2.2.2.2])]) (ω2 := [(a_c, .lst [(cL cI) r2.2.1, cI r2.2.2.1, cI r2.2.2.2.1, cI r2.2.2.2.2.1, cI r2.2.2.2.2.2])]) (ok_law_once_E T) (hr.mono (by decide)) T.m_law_once T.F_law_once.kp T.b_law_once (da_cons (de_var (d := .v ((cL cEW) l7.1)) 3) da_nil) ⟨l7.1, r13, rfl, rfl, hr13, rfl⟩ (fun _ _ h => h) [0] [0]) (da_cons (de_call (d := .v ((cT cPW) r18)) (ωp := []) (ωp' := []) (ωr := [(a_c, .lst [(cL cI) r2.2.1, cI r2.2.2.1, cI r2.2.2.2.1, cI r2.2.2.2.2.1, cI r2.2.2.2.2.2])]) (ω2 := [(a_c, .lst [(cL cI) r2.2.1, cI r2.2.2.1, cI r2.2.2.2.1, cI r2.2.2.2.2.1, cI r2.2.2.2.2.2])]) (ok_law_once T) (hr.mono (by decide)) T.m_law_once T.F_law_once.kp T.b_law_once (da_cons (de_froz (dn_of (comp_d (cy := cPW) [("row", 9)] (.nm 9) _ (fun x => .v (cPW x)) (fun s16 => [(a_c, .lst [(cL cI) r2.2.1, cI r2.2.2.1, cI r2.2.2.2.1, cI r2.2.2.2.2.1, cI r2.2.2.2.2.2])]) _ _ _ hl17 (di_listT (c := cPW) (de_var (d := .v ((cL cPW) x_parts.2.2.2)) 8)) (Pk.refl _) (blkOk_by (N := ["c", "parts", "name", "rows", "begun", "many", "starts", "edges", "ends", "row"]) (sc := defScope s_law_machine) (own := [("row", 9)]) (by decide +kernel)) (fun _ _ _ _ _ => pg_name (i := 9) nd rfl (by first | exact Or.inl rfl | exact Or.inr rfl)) (by intro i hi; revert i hi; decide) (fun _ => rfl) (fun _ _ _ _ hb _ _ _ _ _ => by cases (some_i hb); exact dts_nil) (fun e14 s16 _ hx _ hb _ _ _ _ _ => by
          have hm := hb
          obtain ⟨x15, hx15, hm⟩ := bnd hm
          have hq := some_i hm
          subst hq
          exact (de_tup (ps := [cI x15, cS e14.2]) (da_cons (de_ixLt (c := cI) (de_var (d := .v ((cL cI) r2.1)) 2) (de_ixT (p := cI e14.1) (de_var (d := .v (cPW e14)) 9) de_int rfl) lv hx15) (da_cons (de_ixT (p := cS e14.2) (de_var (d := .v (cPW e14)) 9) de_int rfl) da_nil))))))) da_nil) ⟨l17.1, r18, rfl, rfl, hr18, rfl⟩ (fun _ _ h => h) [0] [0]) da_nil))))) (by first | exact ⟨rfl, rfl⟩ | exact ⟨⟨rfl, rfl⟩, fun z => z⟩ | exact ⟨⟨⟨rfl, rfl⟩, fun z => z⟩, fun z => z⟩ | exact ⟨⟨⟨⟨rfl, rfl⟩, fun z => z⟩, fun z => z⟩, fun z => z⟩)
end
end K44
end

section
set_option Elab.async false
set_option linter.all false
set_option maxRecDepth 100000
set_option maxHeartbeats 4000000
namespace K44
open PySem L2 Q TL
section
variable {P : Program} {w : World} {K : PySem.W.Frag} {mg : Str → Option Value} {base : Heap}
theorem ok_law_drawn (T : Txt P K mg) : FnOk P w K mg base CX0 4 T.f_law_drawn T.d_law_drawn ["c", "reads", "writes", "many"] (SpC (Mir (A := Addr × CS × Wd × Wd × Int) (fun x => m_law_drawn x.2.1 x.2.2.1 x.2.2.2.1 x.2.2.2.2) (fun x => [.adr x.1, .v (cS x.2.2.1), .v (cS x.2.2.2.1), .v (cI x.2.2.2.2)]) (fun x => [(x.1, .lst [(cL cI) x.2.1.1, cI x.2.1.2.1, cI x.2.1.2.2.1, cI x.2.1.2.2.2.1, cI x.2.1.2.2.2.2])]) (fun x t => .v (cParts t.1)) (fun x t => [(x.1, .lst [(cL cI) t.2.1, cI t.2.2.1, cI t.2.2.2.1, cI t.2.2.2.2.1, cI t.2.2.2.2.2])]))) := by
  refine fn_d (k := 3) T.F_law_drawn sc_law_drawn (by rintro _ _ _ ⟨x, t, rfl, _⟩; rfl) (by decide) fun cdv A outer s H E ds ω Pr hr hR => ?_
  obtain ⟨x, t, rfl, rfl, hm, rfl⟩ := hR
  obtain ⟨a_c, x_c, x_reads, x_writes, x_many⟩ := x
  have nd := sc_law_drawn.nd
  have hu := hr.units
  change m_law_drawn x_c x_reads x_writes x_many = some t at hm
  unfold m_law_drawn at hm
  change DSs _ _ [some (.adr a_c), some (.v (cS x_reads)), some (.v (cS x_writes)), some (.v (cI x_many)), none, none, none, none, none, none] [(a_c, .lst [(cL cI) x_c.1, cI x_c.2.1, cI x_c.2.2.1, cI x_c.2.2.2.1, cI x_c.2.2.2.2])] _
  obtain ⟨v2, hv2, hm⟩ := lt_some hm
  refine dss_setN (cc := .lst (List.map cEW v2)) (ω1 := [(a_c, .lst [(cL cI) x_c.1, cI x_c.2.1, cI x_c.2.2.1, cI x_c.2.2.2.1, cI x_c.2.2.2.2])]) 4 (dn_is (c := .lst (List.map cEW ([] : List EW))) (dn_lst (ps := List.map cEW ([] : List EW)) da_nil) (by rw [hv2])) (fun a1 => ?_)
  change DSs _ _ [some (.adr a_c), some (.v (cS x_reads)), some (.v (cS x_writes)), some (.v (cI x_many)), some (.adr a1), none, none, none, none, none] [(a_c, .lst [(cL cI) x_c.1, cI x_c.2.1, cI x_c.2.2.1, cI x_c.2.2.2.1, cI x_c.2.2.2.2]), (a1, .lst (List.map cEW v2))] _
  obtain ⟨r3, hr3, hm⟩ := bnd hm
  obtain ⟨hg4, hm⟩ := gd_some hm
  obtain ⟨s6, hs6, hm⟩ := bnd hm
  refine dss_forS (.nm 5) _ (fun x => .v (cI x)) (fun (s5 : CS × (List EW)) => [some (.adr a_c), some (.v (cS x_reads)), some (.v (cS x_writes)), some (.v (cI x_many)), some (.adr a1), none, none, none, none, none]) (fun (s5 : CS × (List EW)) => [(a_c, .lst [(cL cI) s5.1.1, cI s5.1.2.1, cI s5.1.2.2.1, cI s5.1.2.2.2.1, cI s5.1.2.2.2.2]), (a1, .lst (List.map cEW s5.2))]) _ _ _ hs6 (di_range T.z_range (de_call (d := .v (cI r3.1)) (ωp := [(a_c, .lst [(cL cI) x_c.1, cI x_c.2.1, cI x_c.2.2.1, cI x_c.2.2.2.1, cI x_c.2.2.2.2])]) (ωp' := [(a_c, .lst [(cL cI) r3.2.1, cI r3.2.2.1, cI r3.2.2.2.1, cI r3.2.2.2.2.1, cI r3.2.2.2.2.2])]) (ωr := [(a1, .lst (List.map cEW v2))]) (ω2 := [(a_c, .lst [(cL cI) r3.2.1, cI r3.2.2.1, cI r3.2.2.2.1, cI r3.2.2.2.2.1, cI r3.2.2.2.2.2]), (a1, .lst (List.map cEW v2))]) (ok_law_take T) (hr.mono (by decide)) T.m_law_take T.F_law_take.kp T.b_law_take (da_cons (de_var (d := .adr a_c) 0) (da_cons (de_add (de_mul de_int (de_var (d := .v (cI x_many)) 3) (by simp)) de_int) da_nil)) ⟨(a_c, x_c, ((3 * x_many) + 2)), r3, rfl, rfl, hr3, rfl⟩ (fun _ _ h => h) [0, 1] [0, 1]) hg4.1 hg4.2) (pg_name (i := 5) nd rfl (by first | exact Or.inl rfl | exact Or.inr rfl)) ⟨.inr rfl, .inr rfl, .inr rfl, .inr rfl, .inr rfl, .inl rfl, .inl rfl, .inl rfl, .inl rfl, .inl rfl, trivial⟩ ⟨[0, 1], rfl, by decide⟩ (fun _ => rfl) ?_ ?_ PassesOwn.never
  · intro e7 s5 k hx hm
    change DSs _ _ [some (.adr a_c), some (.v (cS x_reads)), some (.v (cS x_writes)), some (.v (cI x_many)), some (.adr a1), some (.v (cI e7)), none, none, none, none] [(a_c, .lst [(cL cI) s5.1.1, cI s5.1.2.1, cI s5.1.2.2.1, cI s5.1.2.2.2.1, cI s5.1.2.2.2.2]), (a1, .lst (List.map cEW s5.2))] _
    obtain ⟨r8, hr8, hm⟩ := bnd hm
    refine dss_set (d := .v (cS r8.1)) (ρ' := [some (.adr a_c), some (.v (cS x_reads)), some (.v (cS x_writes)), some (.v (cI x_many)), some (.adr a1), some (.v (cI e7)), none, none, some (.v (cS r8.1)), none]) (ω1 := [(a_c, .lst [(cL cI) r8.2.1, cI r8.2.2.1, cI r8.2.2.2.1, cI r8.2.2.2.2.1, cI r8.2.2.2.2.2]), (a1, .lst (List.map cEW s5.2))]) 8 (de_call (d := .v (cS r8.1)) (ωp := [(a_c, .lst [(cL cI) s5.1.1, cI s5.1.2.1, cI s5.1.2.2.1, cI s5.1.2.2.2.1, cI s5.1.2.2.2.2])]) (ωp' := [(a_c, .lst [(cL cI) r8.2.1, cI r8.2.2.1, cI r8.2.2.2.1, cI r8.2.2.2.2.1, cI r8.2.2.2.2.2])]) (ωr := [(a1, .lst (List.map cEW s5.2))]) (ω2 := [(a_c, .lst [(cL cI) r8.2.1, cI r8.2.2.1, cI r8.2.2.2.1, cI r8.2.2.2.2.1, cI r8.2.2.2.2.2]), (a1, .lst (List.map cEW s5.2))]) (ok_law_word T) (hr.mono (by decide)) T.m_law_word T.F_law_word.kp T.b_law_word (da_cons (de_var (d := .adr a_c) 0) (da_cons (de_var (d := .v (cS x_writes)) 2) (da_cons de_int da_nil))) ⟨(a_c, s5.1, x_writes, 2), r8, rfl, rfl, hr8, rfl⟩ (fun _ _ h => h) [0, 1] [0, 1]) ?_
    obtain ⟨r9, hr9, hm⟩ := bnd hm
    obtain ⟨r10, hr10, hm⟩ := bnd hm
    obtain ⟨z11, hz11, hm⟩ := bnd hm
    obtain ⟨r12, hr12, hm⟩ := bnd hm
    obtain ⟨hg13, hm⟩ := gd_some hm
    refine dss_expr (ω1 := [(a_c, .lst [(cL cI) r12.2.1, cI r12.2.2.1, cI r12.2.2.2.1, cI r12.2.2.2.2.1, cI r12.2.2.2.2.2]), (a1, .lst (List.map cEW (s5.2 ++ [(r9.1, [z11], r8.1, r12.1)])))]) (de_appendT (c := cEW) (xs := s5.2) (x := (r9.1, [z11], r8.1, r12.1)) (ω' := [(a_c, .lst [(cL cI) r12.2.1, cI r12.2.2.1, cI r12.2.2.2.1, cI r12.2.2.2.2.1, cI r12.2.2.2.2.2]), (a1, .lst (List.map cEW (s5.2 ++ [(r9.1, [z11], r8.1, r12.1)])))]) 1 (de_var (d := .adr a1) 4) (de_tup (ps := [cI r9.1, cS [z11], cS r8.1, cI r12.1]) (da_cons (de_call (d := .v (cI r9.1)) (ωp := [(a_c, .lst [(cL cI) r8.2.1, cI r8.2.2.1, cI r8.2.2.2.1, cI r8.2.2.2.2.1, cI r8.2.2.2.2.2])]) (ωp' := [(a_c, .lst [(cL cI) r9.2.1, cI r9.2.2.1, cI r9.2.2.2.1, cI r9.2.2.2.2.1, cI r9.2.2.2.2.2])]) (ωr := [(a1, .lst (List.map cEW s5.2))]) (ω2 := [(a_c, .lst [(cL cI) r9.2.1, cI r9.2.2.1, cI r9.2.2.2.1, cI r9.2.2.2.2.1, cI r9.2.2.2.2.2]), (a1, .lst (List.map cEW s5.2))]) (ok_law_take T) (hr.mono (by decide)) T.m_law_take T.F_law_take.kp T.b_law_take (da_cons (de_var (d := .adr a_c) 0) (da_cons (de_var (d := .v (cI x_many)) 3) da_nil)) ⟨(a_c, r8.2, x_many), r9, rfl, rfl, hr9, rfl⟩ (fun _ _ h => h) [0, 1] [0, 1]) (da_cons (de_ixS (de_var (d := .v (cS x_reads)) 1) (de_call (d := .v (cI r10.1)) (ωp := [(a_c, .lst [(cL cI) r9.2.1, cI r9.2.2.1, cI r9.2.2.2.1, cI r9.2.2.2.2.1, cI r9.2.2.2.2.2])]) (ωp' := [(a_c, .lst [(cL cI) r10.2.1, cI r10.2.2.1, cI r10.2.2.2.1, cI r10.2.2.2.2.1, cI r10.2.2.2.2.2])]) (ωr := [(a1, .lst (List.map cEW s5.2))]) (ω2 := [(a_c, .lst [(cL cI) r10.2.1, cI r10.2.2.1, cI r10.2.2.2.1, cI r10.2.2.2.2.1, cI r10.2.2.2.2.2]), (a1, .lst (List.map cEW s5.2))]) (ok_law_take T) (hr.mono (by decide)) T.m_law_take T.F_law_take.kp T.b_law_take (da_cons (de_var (d := .adr a_c) 0) (da_cons (de_lenS T.z_len (de_var (d := .v (cS x_reads)) 1)) da_nil)) ⟨(a_c, r9.2, (x_reads.length : Int)), r10, rfl, rfl, hr10, rfl⟩ (fun _ _ h => h) [0, 1] [0, 1]) hz11) (da_cons (de_var (d := .v (cS r8.1)) 8) (da_cons (de_call (d := .v (cI r12.1)) (ωp := [(a_c, .lst [(cL cI) r10.2.1, cI r10.2.2.1, cI r10.2.2.2.1, cI r10.2.2.2.2.1, cI r10.2.2.2.2.2])]) (ωp' := [(a_c, .lst [(cL cI) r12.2.1, cI r12.2.2.1, cI r12.2.2.2.1, cI r12.2.2.2.2.1, cI r12.2.2.2.2.2])]) (ωr := [(a1, .lst (List.map cEW s5.2))]) (ω2 := [(a_c, .lst [(cL cI) r12.2.1, cI r12.2.2.1, cI r12.2.2.2.1, cI r12.2.2.2.2.1, cI r12.2.2.2.2.2]), (a1, .lst (List.map cEW s5.2))]) (ok_law_take T) (hr.mono (by decide)) T.m_law_take T.F_law_take.kp T.b_law_take (da_cons (de_var (d := .adr a_c) 0) (da_cons (de_var (d := .v (cI x_many)) 3) da_nil)) ⟨(a_c, r10.2, x_many), r12, rfl, rfl, hr12, rfl⟩ (fun _ _ h => h) [0, 1] [0, 1]) da_nil))))) hg13) ?_
    have hq := some_i hm
    subst hq
    exact dss_nil ⟨_, _, .inl rfl, ⟨.inr rfl, .inr rfl, .inr rfl, .inr rfl, .inr rfl, .inl rfl, .inl rfl, .inl rfl, .inl rfl, .inl rfl, trivial⟩, ⟨[0, 1], rfl, by decide⟩⟩
  change DSs _ _ [some (.adr a_c), some (.v (cS x_reads)), some (.v (cS x_writes)), some (.v (cI x_many)), some (.adr a1), none, none, none, none, none] [(a_c, .lst [(cL cI) s6.1.1, cI s6.1.2.1, cI s6.1.2.2.1, cI s6.1.2.2.2.1, cI s6.1.2.2.2.2]), (a1, .lst (List.map cEW s6.2))] _
  obtain ⟨r14, hr14, hm⟩ := bnd hm
  obtain ⟨hg15, hm⟩ := gd_some hm
  obtain ⟨l22, hl22, hm⟩ := bnd hm
  refine dss_setLC (d := .v ((cL cPW) l22.1)) (ρ' := [some (.adr a_c), some (.v (cS x_reads)), some (.v (cS x_writes)), some (.v (cI x_many)), some (.adr a1), none, some (.v ((cL cPW) l22.1)), none, none, none]) (ω1 := [(a_c, .lst [(cL cI) l22.2.1, cI l22.2.2.1, cI l22.2.2.2.1, cI l22.2.2.2.2.1, cI l22.2.2.2.2.2]), (a1, .lst (List.map cEW s6.2))]) 6 (comp_d (cy := cPW) [("k", 9)] (.nm 9) _ (fun x => .v (cI x)) (fun s19 => [(a_c, .lst [(cL cI) s19.1, cI s19.2.1, cI s19.2.2.1, cI s19.2.2.2.1, cI s19.2.2.2.2]), (a1, .lst (List.map cEW s6.2))]) _ _ _ hl22 (di_range T.z_range (de_add de_int (de_call (d := .v (cI r14.1)) (ωp := [(a_c, .lst [(cL cI) s6.1.1, cI s6.1.2.1, cI s6.1.2.2.1, cI s6.1.2.2.2.1, cI s6.1.2.2.2.2])]) (ωp' := [(a_c, .lst [(cL cI) r14.2.1, cI r14.2.2.1, cI r14.2.2.2.1, cI r14.2.2.2.2.1, cI r14.2.2.2.2.2])]) (ωr := [(a1, .lst (List.map cEW s6.2))]) (ω2 := [(a_c, .lst [(cL cI) r14.2.1, cI r14.2.2.1, cI r14.2.2.2.1, cI r14.2.2.2.2.1, cI r14.2.2.2.2.2]), (a1, .lst (List.map cEW s6.2))]) (ok_law_take T) (hr.mono (by decide)) T.m_law_take T.F_law_take.kp T.b_law_take (da_cons (de_var (d := .adr a_c) 0) (da_cons de_int da_nil)) ⟨(a_c, s6.1, 2), r14, rfl, rfl, hr14, rfl⟩ (fun _ _ h => h) [0, 1] [0, 1])) hg15.1 hg15.2) (Pk.refl _) (blkOk_by (N := ["c", "reads", "writes", "many", "edges", "turn", "begun", "ends", "word", "k"]) (sc := defScope s_law_drawn) (own := [("k", 9)]) (by decide +kernel)) (fun _ _ _ _ _ => pg_name (i := 9) nd rfl (by first | exact Or.inl rfl | exact Or.inr rfl)) (by intro i hi; revert i hi; decide) (fun _ => rfl) (fun _ _ _ _ hb _ _ _ _ _ => by cases (some_i hb); exact dts_nil) (fun e16 s19 _ hx _ hb _ _ _ _ _ => by
          have hm := hb
          obtain ⟨r20, hr20, hm⟩ := bnd hm
          obtain ⟨r21, hr21, hm⟩ := bnd hm
          have hq := some_i hm
          subst hq
          exact (de_tup (ps := [cI r20.1, cS r21.1]) (da_cons (de_call (d := .v (cI r20.1)) (ωp := [(a_c, .lst [(cL cI) s19.1, cI s19.2.1, cI s19.2.2.1, cI s19.2.2.2.1, cI s19.2.2.2.2])]) (ωp' := [(a_c, .lst [(cL cI) r20.2.1, cI r20.2.2.1, cI r20.2.2.2.1, cI r20.2.2.2.2.1, cI r20.2.2.2.2.2])]) (ωr := [(a1, .lst (List.map cEW s6.2))]) (ω2 := [(a_c, .lst [(cL cI) r20.2.1, cI r20.2.2.1, cI r20.2.2.2.1, cI r20.2.2.2.2.1, cI r20.2.2.2.2.2]), (a1, .lst (List.map cEW s6.2))]) (ok_law_take T) (hr.mono (by decide)) T.m_law_take T.F_law_take.kp T.b_law_take (da_cons (de_var (d := .adr a_c) 0) (da_cons (de_var (d := .v (cI x_many)) 3) da_nil)) ⟨(a_c, s19, x_many), r20, rfl, rfl, hr20, rfl⟩ (fun _ _ h => h) [0, 1] [0, 1]) (da_cons (de_call (d := .v (cS r21.1)) (ωp := [(a_c, .lst [(cL cI) r20.2.1, cI r20.2.2.1, cI r20.2.2.2.1, cI r20.2.2.2.2.1, cI r20.2.2.2.2.2])]) (ωp' := [(a_c, .lst [(cL cI) r21.2.1, cI r21.2.2.1, cI r21.2.2.2.1, cI r21.2.2.2.2.1, cI r21.2.2.2.2.2])]) (ωr := [(a1, .lst (List.map cEW s6.2))]) (ω2 := [(a_c, .lst [(cL cI) r21.2.1, cI r21.2.2.1, cI r21.2.2.2.1, cI r21.2.2.2.2.1, cI r21.2.2.2.2.2]), (a1, .lst (List.map cEW s6.2))]) (ok_law_word T) (hr.mono (by decide)) T.m_law_word T.F_law_word.kp T.b_law_word (da_cons (de_var (d := .adr a_c) 0) (da_cons (de_var (d := .v (cS x_writes)) 2) (da_cons de_int da_nil))) ⟨(a_c, r20.2, x_writes, 2), r21, rfl, rfl, hr21, rfl⟩ (fun _ _ h => h) [0, 1] [0, 1]) da_nil))))) ?_ (by rfl)
  obtain ⟨r23, hr23, hm⟩ := bnd hm
  obtain ⟨hg24, hm⟩ := gd_some hm
  obtain ⟨l31, hl31, hm⟩ := bnd hm
  refine dss_setLC (d := .v ((cL cPW) l31.1)) (ρ' := [some (.adr a_c), some (.v (cS x_reads)), some (.v (cS x_writes)), some (.v (cI x_many)), some (.adr a1), none, some (.v ((cL cPW) l22.1)), some (.v ((cL cPW) l31.1)), none, none]) (ω1 := [(a_c, .lst [(cL cI) l31.2.1, cI l31.2.2.1, cI l31.2.2.2.1, cI l31.2.2.2.2.1, cI l31.2.2.2.2.2]), (a1, .lst (List.map cEW s6.2))]) 7 (comp_d (cy := cPW) [("k", 9)] (.nm 9) _ (fun x => .v (cI x)) (fun s28 => [(a_c, .lst [(cL cI) s28.1, cI s28.2.1, cI s28.2.2.1, cI s28.2.2.2.1, cI s28.2.2.2.2]), (a1, .lst (List.map cEW s6.2))]) _ _ _ hl31 (di_range T.z_range (de_add de_int (de_call (d := .v (cI r23.1)) (ωp := [(a_c, .lst [(cL cI) l22.2.1, cI l22.2.2.1, cI l22.2.2.2.1, cI l22.2.2.2.2.1, cI l22.2.2.2.2.2])]) (ωp' := [(a_c, .lst [(cL cI) r23.2.1, cI r23.2.2.1, cI r23.2.2.2.1, cI r23.2.2.2.2.1, cI r23.2.2.2.2.2])]) (ωr := [(a1, .lst (List.map cEW s6.2))]) (ω2 := [(a_c, .lst [(cL cI) r23.2.1, cI r23.2.2.1, cI r23.2.2.2.1, cI r23.2.2.2.2.1, cI r23.2.2.2.2.2]), (a1, .lst (List.map cEW s6.2))]) (ok_law_take T) (hr.mono (by decide)) T.m_law_take T.F_law_take.kp T.b_law_take (da_cons (de_var (d := .adr a_c) 0) (da_cons de_int da_nil)) ⟨(a_c, l22.2, 3), r23, rfl, rfl, hr23, rfl⟩ (fun _ _ h => h) [0, 1] [0, 1])) hg24.1 hg24.2) (Pk.refl _) (blkOk_by (N := ["c", "reads", "writes", "many", "edges", "turn", "begun", "ends", "word", "k"]) (sc := defScope s_law_drawn) (own := [("k", 9)]) (by decide +kernel)) (fun _ _ _ _ _ => pg_name (i := 9) nd rfl (by first | exact Or.inl rfl | exact Or.inr rfl)) (by intro i hi; revert i hi; decide) (fun _ => rfl) (fun _ _ _ _ hb _ _ _ _ _ => by cases (some_i hb); exact dts_nil) (fun e25 s28 _ hx _ hb _ _ _ _ _ => by
          have hm := hb
          obtain ⟨r29, hr29, hm⟩ := bnd hm
          obtain ⟨r30, hr30, hm⟩ := bnd hm
          have hq := some_i hm
          subst hq
          exact (de_tup (ps := [cI r29.1, cS r30.1]) (da_cons (de_call (d := .v (cI r29.1)) (ωp := [(a_c, .lst [(cL cI) s28.1, cI s28.2.1, cI s28.2.2.1, cI s28.2.2.2.1, cI s28.2.2.2.2])]) (ωp' := [(a_c, .lst [(cL cI) r29.2.1, cI r29.2.2.1, cI r29.2.2.2.1, cI r29.2.2.2.2.1, cI r29.2.2.2.2.2])]) (ωr := [(a1, .lst (List.map cEW s6.2))]) (ω2 := [(a_c, .lst [(cL cI) r29.2.1, cI r29.2.2.1, cI r29.2.2.2.1, cI r29.2.2.2.2.1, cI r29.2.2.2.2.2]), (a1, .lst (List.map cEW s6.2))]) (ok_law_take T) (hr.mono (by decide)) T.m_law_take T.F_law_take.kp T.b_law_take (da_cons (de_var (d := .adr a_c) 0) (da_cons (de_var (d := .v (cI x_many)) 3) da_nil)) ⟨(a_c, s28, x_many), r29, rfl, rfl, hr29, rfl⟩ (fun _ _ h => h) [0, 1] [0, 1]) (da_cons (de_call (d := .v (cS r30.1)) (ωp := [(a_c, .lst [(cL cI) r29.2.1, cI r29.2.2.1, cI r29.2.2.2.1, cI r29.2.2.2.2.1, cI r29.2.2.2.2.2])]) (ωp' := [(a_c, .lst [(cL cI) r30.2.1, cI r30.2.2.1, cI r30.2.2.2.1, cI r30.2.2.2.2.1, cI r30.2.2.2.2.2])]) (ωr := [(a1, .lst (List.map cEW s6.2))]) (ω2 := [(a_c, .lst [(cL cI) r30.2.1, cI r30.2.2.1, cI r30.2.2.2.1, cI r30.2.2.2.2.1, cI r30.2.2.2.2.2]), (a1, .lst (List.map cEW s6.2))]) (ok_law_word T) (hr.mono (by decide)) T.m_law_word T.F_law_word.kp T.b_law_word (da_cons (de_var (d := .adr a_c) 0) (da_cons (de_var (d := .v (cS x_writes)) 2) (da_cons de_int da_nil))) ⟨(a_c, r29.2, x_writes, 2), r30, rfl, rfl, hr30, rfl⟩ (fun _ _ h => h) [0, 1] [0, 1]) da_nil))))) ?_ (by rfl)
  refine dss_frz (ps := List.map cEW s6.2) (ω' := [(a_c, .lst [(cL cI) l31.2.1, cI l31.2.2.1, cI l31.2.2.2.1, cI l31.2.2.2.2.1, cI l31.2.2.2.2.2])]) 4 [0, 1] rfl rfl (by decide) ?_
  change DSs _ _ [some (.adr a_c), some (.v (cS x_reads)), some (.v (cS x_writes)), some (.v (cI x_many)), some (.v ((cL cEW) s6.2)), none, some (.v ((cL cPW) l22.1)), some (.v ((cL cPW) l31.1)), none, none] _ _
  have hq := some_i hm
  subst hq
  exact dss_ret (ω1 := [(a_c, .lst [(cL cI) l31.2.1, cI l31.2.2.1, cI l31.2.2.2.1, cI l31.2.2.2.2.1, cI l31.2.2.2.2.2])]) (de_lst (ps := [cI x_many, (cL cPW) l22.1, (cL cEW) s6.2, (cL cPW) l31.1]) (da_cons (de_var (d := .v (cI x_many)) 3) (da_cons (de_var (d := .v ((cL cPW) l22.1)) 6) (da_cons (de_var (d := .v ((cL cEW) s6.2)) 4) (da_cons (de_var (d := .v ((cL cPW) l31.1)) 7) da_nil))))) (by first | exact ⟨rfl, rfl⟩ | exact ⟨⟨rfl, rfl⟩, fun z => z⟩ | exact ⟨⟨⟨rfl, rfl⟩, fun z => z⟩, fun z => z⟩ | exact ⟨⟨⟨⟨rfl, rfl⟩, fun z => z⟩, fun z => z⟩, fun z => z⟩)
end
end K44
end

section
set_option Elab.async false
set_option linter.all false
set_option maxRecDepth 100000
set_option maxHeartbeats 4000000
namespace K44
open PySem L2 Q TL
section
variable {P : Program} {w : World} {K : PySem.W.Frag} {mg : Str → Option Value} {base : Heap}
theorem ok_law_lines (T : Txt P K mg) : FnOk P w K mg base CX0 1 T.f_law_lines T.d_law_lines ["machine"] (SpC (Mir (A := Mach) (fun x => m_law_lines x) (fun x => [.v (cMach x)]) (fun x => []) (fun x t => .v ((cL (cL cS)) t)) (fun x t => []))) := by
  refine fn_d (k := 0) T.F_law_lines sc_law_lines (by rintro _ _ _ ⟨x, t, rfl, _⟩; rfl) (by decide) fun cdv A outer s H E ds ω Pr hr hR => ?_
  obtain ⟨x_machine, t, rfl, rfl, hm, rfl⟩ := hR
  skip
  have nd := sc_law_lines.nd
  have hu := hr.units
  change m_law_lines x_machine = some t at hm
  unfold m_law_lines at hm
  change DSs _ _ [some (.v (cMach x_machine)), none, none] [] _
  obtain ⟨hg1, hm⟩ := gd_some hm
  obtain ⟨v3, hv3, hm⟩ := lt_some hm
  refine dss_setN (cc := .lst (List.map (cL cS) v3)) (ω1 := []) 1 (dn_is (c := .lst (List.map (cL cS) ([([([115, 116, 97, 116, 101, 115] : Wd), strI x_machine.1] : List Wd)] : List (List Wd)))) (dn_lst (ps := List.map (cL cS) ([([([115, 116, 97, 116, 101, 115] : Wd), strI x_machine.1] : List Wd)] : List (List Wd))) (da_cons (de_froz (dn_lst (ps := List.map cS ([([115, 116, 97, 116, 101, 115] : Wd), strI x_machine.1] : List Wd)) (da_cons (de_str ([115, 116, 97, 116, 101, 115] : Wd)) (da_cons (de_strI T.z_str (de_ixT (p := cI x_machine.1) (de_var (d := .v (cMach x_machine)) 0) de_int rfl) hg1) da_nil)))) da_nil)) (by rw [hv3])) (fun a2 => ?_)
  change DSs _ _ [some (.v (cMach x_machine)), some (.adr a2), none] [(a2, .lst (List.map (cL cS) v3))] _
  obtain ⟨l8, hl8, hm⟩ := bnd hm
  obtain ⟨hg9, hm⟩ := gd_some hm
  obtain ⟨v11, hv11, hm⟩ := lt_some hm
  refine dss_setN (cc := .lst (List.map (cL cS) v11)) (ω1 := [(a2, .lst (List.map (cL cS) v3))]) 1 (dn_is (c := .lst (List.map (cL cS) (v3 ++ l8.1))) (dn_catT (c := (cL cS)) (xs := v3) (ys := l8.1) (de_var (d := .adr a2) 1) (de_froz (dn_of (comp_d (cy := (cL cS)) [("row", 2)] (.nm 2) _ (fun x => .v (cPW x)) (fun s7 => [(a2, .lst (List.map (cL cS) v3))]) _ _ _ hl8 (di_tupT (c := cPW) (de_ixT (p := (cT cPW) x_machine.2.1) (de_var (d := .v (cMach x_machine)) 0) de_int rfl)) (Pk.refl _) (blkOk_by (N := ["machine", "found", "row"]) (sc := defScope s_law_lines) (own := [("row", 2)]) (by decide +kernel)) (fun _ _ _ _ _ => pg_name (i := 2) nd rfl (by first | exact Or.inl rfl | exact Or.inr rfl)) (by intro i hi; revert i hi; decide) (fun _ => rfl) (fun _ _ _ _ hb _ _ _ _ _ => by cases (some_i hb); exact dts_nil) (fun e4 s7 _ hx _ hb _ _ _ _ _ => by
          have hm := hb
          obtain ⟨hg5, hm⟩ := gd_some hm
          obtain ⟨y6, hy6, hm⟩ := bnd hm
          have hq := some_i hm
          subst hq
          exact (de_froz (dn_lst (ps := List.map cS ([([115, 116, 97, 114, 116] : Wd), strI e4.1, y6] : List Wd)) (da_cons (de_str ([115, 116, 97, 114, 116] : Wd)) (da_cons (de_strI T.z_str (de_ixT (p := cI e4.1) (de_var (d := .v (cPW e4)) 2) de_int rfl) hg5) (da_cons (de_if (d := .v (cS y6)) (ω2 := [(a2, .lst (List.map (cL cS) v3))]) (dt_c (de_ixT (p := cS e4.2) (de_var (d := .v (cPW e4)) 2) de_int rfl) (de_str ([] : Wd)) c_neS) (fun hk => by
        have hm := cnd_t hk hy6
  
        have hq := some_i hm
        subst hq
        exact (de_ixT (p := cS e4.2) (de_var (d := .v (cPW e4)) 2) de_int rfl)) (fun hk => by
        have hm := cnd_f hk hy6
  
        have hq := some_i hm
        subst hq
        exact (de_str ([45] : Wd)))) da_nil))))))))) (lc 0) lv hg9) (by rw [hv11])) (fun a10 => ?_)
  change DSs _ _ [some (.v (cMach x_machine)), some (.adr a10), none] [(a2, .lst (List.map (cL cS) v3)), (a10, .lst (List.map (cL cS) v11))] _
  obtain ⟨s13, hs13, hm⟩ := bnd hm
  refine dss_forS (.nm 2) _ (fun x => .v (cEW x)) (fun (s12 : (List (List Wd))) => [some (.v (cMach x_machine)), some (.adr a10), none]) (fun (s12 : (List (List Wd))) => [(a2, .lst (List.map (cL cS) v3)), (a10, .lst (List.map (cL cS) s12))]) _ _ _ hs13 (di_tupT (c := cEW) (de_ixT (p := (cT cEW) x_machine.2.2.1) (de_var (d := .v (cMach x_machine)) 0) de_int rfl)) (pg_name (i := 2) nd rfl (by first | exact Or.inl rfl | exact Or.inr rfl)) ⟨.inr rfl, .inr rfl, .inl rfl, trivial⟩ ⟨[0, 1], rfl, by decide⟩ (fun _ => rfl) ?_ ?_ PassesOwn.never
  · intro e14 s12 k hx hm
    change DSs _ _ [some (.v (cMach x_machine)), some (.adr a10), some (.v (cEW e14))] [(a2, .lst (List.map (cL cS) v3)), (a10, .lst (List.map (cL cS) s12))] _
    obtain ⟨hg15, hm⟩ := gd_some hm
    obtain ⟨y16, hy16, hm⟩ := bnd hm
    obtain ⟨hg17, hm⟩ := gd_some hm
    obtain ⟨hg18, hm⟩ := gd_some hm
    refine dss_expr (ω1 := [(a2, .lst (List.map (cL cS) v3)), (a10, .lst (List.map (cL cS) (s12 ++ [([([101, 100, 103, 101] : Wd), strI e14.1, e14.2.1, y16, strI e14.2.2.2] : List Wd)])))]) (de_appendT (c := (cL cS)) (xs := s12) (x := ([([101, 100, 103, 101] : Wd), strI e14.1, e14.2.1, y16, strI e14.2.2.2] : List Wd)) (ω' := [(a2, .lst (List.map (cL cS) v3)), (a10, .lst (List.map (cL cS) (s12 ++ [([([101, 100, 103, 101] : Wd), strI e14.1, e14.2.1, y16, strI e14.2.2.2] : List Wd)])))]) 1 (de_var (d := .adr a10) 1) (de_froz (dn_lst (ps := List.map cS ([([101, 100, 103, 101] : Wd), strI e14.1, e14.2.1, y16, strI e14.2.2.2] : List Wd)) (da_cons (de_str ([101, 100, 103, 101] : Wd)) (da_cons (de_strI T.z_str (de_ixT (p := cI e14.1) (de_var (d := .v (cEW e14)) 2) de_int rfl) hg15) (da_cons (de_ixT (p := cS e14.2.1) (de_var (d := .v (cEW e14)) 2) de_int rfl) (da_cons (de_if (d := .v (cS y16)) (ω2 := [(a2, .lst (List.map (cL cS) v3)), (a10, .lst (List.map (cL cS) s12))]) (dt_c (de_ixT (p := cS e14.2.2.1) (de_var (d := .v (cEW e14)) 2) de_int rfl) (de_str ([] : Wd)) c_neS) (fun hk => by
        have hm := cnd_t hk hy16
  
        have hq := some_i hm
        subst hq
        exact (de_ixT (p := cS e14.2.2.1) (de_var (d := .v (cEW e14)) 2) de_int rfl)) (fun hk => by
        have hm := cnd_f hk hy16
  
        have hq := some_i hm
        subst hq
        exact (de_str ([45] : Wd)))) (da_cons (de_strI T.z_str (de_ixT (p := cI e14.2.2.2) (de_var (d := .v (cEW e14)) 2) de_int rfl) hg17) da_nil))))))) hg18) ?_
    have hq := some_i hm
    subst hq
    exact dss_nil ⟨_, _, .inl rfl, ⟨.inr rfl, .inr rfl, .inl rfl, trivial⟩, ⟨[0, 1], rfl, by decide⟩⟩
  change DSs _ _ [some (.v (cMach x_machine)), some (.adr a10), none] [(a2, .lst (List.map (cL cS) v3)), (a10, .lst (List.map (cL cS) s13))] _
  obtain ⟨l23, hl23, hm⟩ := bnd hm
  obtain ⟨hg24, hm⟩ := gd_some hm
  have hq := some_i hm
  subst hq
  exact dss_ret (ω1 := []) (de_drop (de_froz (dn_catT (c := (cL cS)) (xs := s13) (ys := l23.1) (de_var (d := .adr a10) 1) (de_froz (dn_of (comp_d (cy := (cL cS)) [("row", 2)] (.nm 2) _ (fun x => .v (cPW x)) (fun s22 => [(a2, .lst (List.map (cL cS) v3)), (a10, .lst (List.map (cL cS) s13))]) _ _ _ hl23 (di_tupT (c := cPW) (de_ixT (p := (cT cPW) x_machine.2.2.2) (de_var (d := .v (cMach x_machine)) 0) de_int rfl)) (Pk.refl _) (blkOk_by (N := ["machine", "found", "row"]) (sc := defScope s_law_lines) (own := [("row", 2)]) (by decide +kernel)) (fun _ _ _ _ _ => pg_name (i := 2) nd rfl (by first | exact Or.inl rfl | exact Or.inr rfl)) (by intro i hi; revert i hi; decide) (fun _ => rfl) (fun _ _ _ _ hb _ _ _ _ _ => by cases (some_i hb); exact dts_nil) (fun e19 s22 _ hx _ hb _ _ _ _ _ => by
          have hm := hb
          obtain ⟨hg20, hm⟩ := gd_some hm
          obtain ⟨y21, hy21, hm⟩ := bnd hm
          have hq := some_i hm
          subst hq
          exact (de_froz (dn_lst (ps := List.map cS ([([101, 110, 100] : Wd), strI e19.1, y21] : List Wd)) (da_cons (de_str ([101, 110, 100] : Wd)) (da_cons (de_strI T.z_str (de_ixT (p := cI e19.1) (de_var (d := .v (cPW e19)) 2) de_int rfl) hg20) (da_cons (de_if (d := .v (cS y21)) (ω2 := [(a2, .lst (List.map (cL cS) v3)), (a10, .lst (List.map (cL cS) s13))]) (dt_c (de_ixT (p := cS e19.2) (de_var (d := .v (cPW e19)) 2) de_int rfl) (de_str ([] : Wd)) c_neS) (fun hk => by
        have hm := cnd_t hk hy21
  
        have hq := some_i hm
        subst hq
        exact (de_ixT (p := cS e19.2) (de_var (d := .v (cPW e19)) 2) de_int rfl)) (fun hk => by
        have hm := cnd_f hk hy21
  
        have hq := some_i hm
        subst hq
        exact (de_str ([45] : Wd)))) da_nil))))))))) (lc 1) lv hg24)) ⟨[], rfl, by decide⟩) (by first | exact ⟨rfl, rfl⟩ | exact ⟨⟨rfl, rfl⟩, fun z => z⟩ | exact ⟨⟨⟨rfl, rfl⟩, fun z => z⟩, fun z => z⟩ | exact ⟨⟨⟨⟨rfl, rfl⟩, fun z => z⟩, fun z => z⟩, fun z => z⟩)
end
end K44
end

section
set_option Elab.async false
set_option linter.all false
set_option maxRecDepth 100000
set_option maxHeartbeats 4000000
namespace K44
open PySem L2 Q TL
section
variable {P : Program} {w : World} {K : PySem.W.Frag} {mg : Str → Option Value} {base : Heap}
theorem ok_law_text (T : Txt P K mg) : FnOk P w K mg base CX0 3 T.f_law_text T.d_law_text ["c", "lines"] (SpC (Mir (A := Addr × CS × (List (List Wd))) (fun x => m_law_text x.2.1 x.2.2) (fun x => [.adr x.1, .v ((cL (cL cS)) x.2.2)]) (fun x => [(x.1, .lst [(cL cI) x.2.1.1, cI x.2.1.2.1, cI x.2.1.2.2.1, cI x.2.1.2.2.2.1, cI x.2.1.2.2.2.2])]) (fun x t => .v (cS t.1)) (fun x t => [(x.1, .lst [(cL cI) t.2.1, cI t.2.2.1, cI t.2.2.2.1, cI t.2.2.2.2.1, cI t.2.2.2.2.2])]))) := by
  refine fn_d (k := 2) T.F_law_text sc_law_text (by rintro _ _ _ ⟨x, t, rfl, _⟩; rfl) (by decide) fun cdv A outer s H E ds ω Pr hr hR => ?_
  obtain ⟨x, t, rfl, rfl, hm, rfl⟩ := hR
  obtain ⟨a_c, x_c, x_lines⟩ := x
  have nd := sc_law_text.nd
  have hu := hr.units
  change m_law_text x_c x_lines = some t at hm
  unfold m_law_text at hm
  change DSs _ _ [some (.adr a_c), some (.v ((cL (cL cS)) x_lines)), none, none, none, none] [(a_c, .lst [(cL cI) x_c.1, cI x_c.2.1, cI x_c.2.2.1, cI x_c.2.2.2.1, cI x_c.2.2.2.2])] _
  obtain ⟨v2, hv2, hm⟩ := lt_some hm
  refine dss_setN (cc := .lst (List.map cS v2)) (ω1 := [(a_c, .lst [(cL cI) x_c.1, cI x_c.2.1, cI x_c.2.2.1, cI x_c.2.2.2.1, cI x_c.2.2.2.2])]) 2 (dn_is (c := .lst (List.map cS ([] : List Wd))) (dn_lst (ps := List.map cS ([] : List Wd)) da_nil) (by rw [hv2])) (fun a1 => ?_)
  change DSs _ _ [some (.adr a_c), some (.v ((cL (cL cS)) x_lines)), some (.adr a1), none, none, none] [(a_c, .lst [(cL cI) x_c.1, cI x_c.2.1, cI x_c.2.2.1, cI x_c.2.2.2.1, cI x_c.2.2.2.2]), (a1, .lst (List.map cS v2))] _
  obtain ⟨s4, hs4, hm⟩ := bnd hm
  refine dss_forS (.nm 3) _ (fun x => .v ((cL cS) x)) (fun (s3 : CS × (List Wd)) => [some (.adr a_c), some (.v ((cL (cL cS)) x_lines)), some (.adr a1), none, none, none]) (fun (s3 : CS × (List Wd)) => [(a_c, .lst [(cL cI) s3.1.1, cI s3.1.2.1, cI s3.1.2.2.1, cI s3.1.2.2.2.1, cI s3.1.2.2.2.2]), (a1, .lst (List.map cS s3.2))]) _ _ _ hs4 (di_listT (c := (cL cS)) (de_var (d := .v ((cL (cL cS)) x_lines)) 1)) (pg_name (i := 3) nd rfl (by first | exact Or.inl rfl | exact Or.inr rfl)) ⟨.inr rfl, .inr rfl, .inr rfl, .inl rfl, .inl rfl, .inl rfl, trivial⟩ ⟨[0, 1], rfl, by decide⟩ (fun _ => rfl) ?_ ?_ PassesOwn.never
  · intro e5 s3 k hx hm
    change DSs _ _ [some (.adr a_c), some (.v ((cL (cL cS)) x_lines)), some (.adr a1), some (.v ((cL cS) e5)), none, none] [(a_c, .lst [(cL cI) s3.1.1, cI s3.1.2.1, cI s3.1.2.2.1, cI s3.1.2.2.2.1, cI s3.1.2.2.2.2]), (a1, .lst (List.map cS s3.2))] _
    obtain ⟨v6, hv6, hm⟩ := lt_some hm
    refine dss_set (d := .v (cS v6)) (ρ' := [some (.adr a_c), some (.v ((cL (cL cS)) x_lines)), some (.adr a1), some (.v ((cL cS) e5)), some (.v (cS v6)), none]) (ω1 := [(a_c, .lst [(cL cI) s3.1.1, cI s3.1.2.1, cI s3.1.2.2.1, cI s3.1.2.2.2.1, cI s3.1.2.2.2.2]), (a1, .lst (List.map cS s3.2))]) 4 (de_is (d := .v (cS ([] : Wd))) (de_str ([] : Wd)) (by rw [hv6])) ?_
    obtain ⟨s8, hs8, hm⟩ := bnd hm
    refine dss_forS (.nm 5) _ (fun x => .v (cS x)) (fun (s7 : Wd × CS) => [some (.adr a_c), some (.v ((cL (cL cS)) x_lines)), some (.adr a1), some (.v ((cL cS) e5)), some (.v (cS s7.1)), none]) (fun (s7 : Wd × CS) => [(a_c, .lst [(cL cI) s7.2.1, cI s7.2.2.1, cI s7.2.2.2.1, cI s7.2.2.2.2.1, cI s7.2.2.2.2.2]), (a1, .lst (List.map cS s3.2))]) _ _ _ hs8 (di_listT (c := cS) (de_var (d := .v ((cL cS) e5)) 3)) (pg_name (i := 5) nd rfl (by first | exact Or.inl rfl | exact Or.inr rfl)) ⟨.inr rfl, .inr rfl, .inr rfl, .inr rfl, .inr rfl, .inl rfl, trivial⟩ ⟨[0, 1], rfl, by decide⟩ (fun _ => rfl) ?_ ?_ PassesOwn.never
    · intro e9 s7 k hx hm
      change DSs _ _ [some (.adr a_c), some (.v ((cL (cL cS)) x_lines)), some (.adr a1), some (.v ((cL cS) e5)), some (.v (cS s7.1)), some (.v (cS e9))] [(a_c, .lst [(cL cI) s7.2.1, cI s7.2.2.1, cI s7.2.2.2.1, cI s7.2.2.2.2.1, cI s7.2.2.2.2.2]), (a1, .lst (List.map cS s3.2))] _
      obtain ⟨y10, hy10, hm⟩ := bnd hm
      obtain ⟨r11, hr11, hm⟩ := bnd hm
      obtain ⟨hg12, hm⟩ := gd_some hm
      obtain ⟨hg13, hm⟩ := gd_some hm
      obtain ⟨hg14, hm⟩ := gd_some hm
      obtain ⟨v15, hv15, hm⟩ := lt_some hm
      refine dss_set (d := .v (cS v15)) (ρ' := [some (.adr a_c), some (.v ((cL (cL cS)) x_lines)), some (.adr a1), some (.v ((cL cS) e5)), some (.v (cS v15)), some (.v (cS e9))]) (ω1 := [(a_c, .lst [(cL cI) r11.2.1, cI r11.2.2.1, cI r11.2.2.2.1, cI r11.2.2.2.2.1, cI r11.2.2.2.2.2]), (a1, .lst (List.map cS s3.2))]) 4 (de_is (d := .v (cS ((s7.1 ++ (List.replicate ((y10 + r11.1) : Int).toNat ([32] : Wd)).flatten) ++ e9))) (de_addS (de_addS (de_var (d := .v (cS s7.1)) 4) (de_mulS (de_str ([32] : Wd)) (de_add (de_if (d := .v (cI y10)) (ω2 := [(a_c, .lst [(cL cI) s7.2.1, cI s7.2.2.1, cI s7.2.2.2.1, cI s7.2.2.2.2.1, cI s7.2.2.2.2.2]), (a1, .lst (List.map cS s3.2))]) (dt_c (de_var (d := .v (cS s7.1)) 4) (de_str ([] : Wd)) c_neS) (fun hk => by
        have hm := cnd_t hk hy10
  
        have hq := some_i hm
        subst hq
        exact de_int) (fun hk => by
        have hm := cnd_f hk hy10
  
        have hq := some_i hm
        subst hq
        exact de_int)) (de_call (d := .v (cI r11.1)) (ωp := [(a_c, .lst [(cL cI) s7.2.1, cI s7.2.2.1, cI s7.2.2.2.1, cI s7.2.2.2.2.1, cI s7.2.2.2.2.2])]) (ωp' := [(a_c, .lst [(cL cI) r11.2.1, cI r11.2.2.1, cI r11.2.2.2.1, cI r11.2.2.2.2.1, cI r11.2.2.2.2.2])]) (ωr := [(a1, .lst (List.map cS s3.2))]) (ω2 := [(a_c, .lst [(cL cI) r11.2.1, cI r11.2.2.1, cI r11.2.2.2.1, cI r11.2.2.2.2.1, cI r11.2.2.2.2.2]), (a1, .lst (List.map cS s3.2))]) (ok_law_take T) (hr.mono (by decide)) T.m_law_take T.F_law_take.kp T.b_law_take (da_cons (de_var (d := .adr a_c) 0) (da_cons de_int da_nil)) ⟨(a_c, s7.2, 3), r11, rfl, rfl, hr11, rfl⟩ (fun _ _ h => h) [0, 1] [0, 1])) hg12) hg13) (de_var (d := .v (cS e9)) 5) hg14) (by rw [hv15])) ?_
      have hq := some_i hm
      subst hq
      exact dss_nil ⟨_, _, .inl rfl, ⟨.inr rfl, .inr rfl, .inr rfl, .inr rfl, .inr rfl, .inl rfl, trivial⟩, ⟨[0, 1], rfl, by decide⟩⟩
    change DSs _ _ [some (.adr a_c), some (.v ((cL (cL cS)) x_lines)), some (.adr a1), some (.v ((cL cS) e5)), some (.v (cS s8.1)), none] [(a_c, .lst [(cL cI) s8.2.1, cI s8.2.2.1, cI s8.2.2.2.1, cI s8.2.2.2.2.1, cI s8.2.2.2.2.2]), (a1, .lst (List.map cS s3.2))] _
    obtain ⟨r16, hr16, hm⟩ := bnd hm
    obtain ⟨hg17, hm⟩ := gd_some hm
    obtain ⟨hg18, hm⟩ := gd_some hm
    obtain ⟨hg19, hm⟩ := gd_some hm
    refine dss_expr (ω1 := [(a_c, .lst [(cL cI) r16.2.1, cI r16.2.2.1, cI r16.2.2.2.1, cI r16.2.2.2.2.1, cI r16.2.2.2.2.2]), (a1, .lst (List.map cS (s3.2 ++ [(s8.1 ++ (List.replicate (r16.1 : Int).toNat ([32] : Wd)).flatten)])))]) (de_appendT (c := cS) (xs := s3.2) (x := (s8.1 ++ (List.replicate (r16.1 : Int).toNat ([32] : Wd)).flatten)) (ω' := [(a_c, .lst [(cL cI) r16.2.1, cI r16.2.2.1, cI r16.2.2.2.1, cI r16.2.2.2.2.1, cI r16.2.2.2.2.2]), (a1, .lst (List.map cS (s3.2 ++ [(s8.1 ++ (List.replicate (r16.1 : Int).toNat ([32] : Wd)).flatten)])))]) 1 (de_var (d := .adr a1) 2) (de_addS (de_var (d := .v (cS s8.1)) 4) (de_mulS (de_str ([32] : Wd)) (de_call (d := .v (cI r16.1)) (ωp := [(a_c, .lst [(cL cI) s8.2.1, cI s8.2.2.1, cI s8.2.2.2.1, cI s8.2.2.2.2.1, cI s8.2.2.2.2.2])]) (ωp' := [(a_c, .lst [(cL cI) r16.2.1, cI r16.2.2.1, cI r16.2.2.2.1, cI r16.2.2.2.2.1, cI r16.2.2.2.2.2])]) (ωr := [(a1, .lst (List.map cS s3.2))]) (ω2 := [(a_c, .lst [(cL cI) r16.2.1, cI r16.2.2.1, cI r16.2.2.2.1, cI r16.2.2.2.2.1, cI r16.2.2.2.2.2]), (a1, .lst (List.map cS s3.2))]) (ok_law_take T) (hr.mono (by decide)) T.m_law_take T.F_law_take.kp T.b_law_take (da_cons (de_var (d := .adr a_c) 0) (da_cons de_int da_nil)) ⟨(a_c, s8.2, 2), r16, rfl, rfl, hr16, rfl⟩ (fun _ _ h => h) [0, 1] [0, 1]) hg17) hg18) hg19) ?_
    have hq := some_i hm
    subst hq
    exact dss_nil ⟨_, _, .inl rfl, ⟨.inr rfl, .inr rfl, .inr rfl, .inl rfl, .inl rfl, .inl rfl, trivial⟩, ⟨[0, 1], rfl, by decide⟩⟩
  change DSs _ _ [some (.adr a_c), some (.v ((cL (cL cS)) x_lines)), some (.adr a1), none, none, none] [(a_c, .lst [(cL cI) s4.1.1, cI s4.1.2.1, cI s4.1.2.2.1, cI s4.1.2.2.2.1, cI s4.1.2.2.2.2]), (a1, .lst (List.map cS s4.2))] _
  obtain ⟨hg20, hm⟩ := gd_some hm
  obtain ⟨r21, hr21, hm⟩ := bnd hm
  obtain ⟨x22, hx22, hm⟩ := bnd hm
  obtain ⟨hg23, hm⟩ := gd_some hm
  have hq := some_i hm
  subst hq
  exact dss_ret (ω1 := [(a_c, .lst [(cL cI) r21.2.1, cI r21.2.2.1, cI r21.2.2.2.1, cI r21.2.2.2.2.1, cI r21.2.2.2.2.2])]) (de_drop (de_addS (de_join (ws := s4.2) (de_str ([10] : Wd)) (de_var (d := .adr a1) 2) (lc 1) hg20) (de_ixLt (c := cS) (de_froz (dn_lst (ps := List.map cS ([([] : Wd), ([10] : Wd), ([10, 32, 10] : Wd)] : List Wd)) (da_cons (de_str ([] : Wd)) (da_cons (de_str ([10] : Wd)) (da_cons (de_str ([10, 32, 10] : Wd)) da_nil))))) (de_call (d := .v (cI r21.1)) (ωp := [(a_c, .lst [(cL cI) s4.1.1, cI s4.1.2.1, cI s4.1.2.2.1, cI s4.1.2.2.2.1, cI s4.1.2.2.2.2])]) (ωp' := [(a_c, .lst [(cL cI) r21.2.1, cI r21.2.2.1, cI r21.2.2.2.1, cI r21.2.2.2.2.1, cI r21.2.2.2.2.2])]) (ωr := [(a1, .lst (List.map cS s4.2))]) (ω2 := [(a_c, .lst [(cL cI) r21.2.1, cI r21.2.2.1, cI r21.2.2.2.1, cI r21.2.2.2.2.1, cI r21.2.2.2.2.2]), (a1, .lst (List.map cS s4.2))]) (ok_law_take T) (hr.mono (by decide)) T.m_law_take T.F_law_take.kp T.b_law_take (da_cons (de_var (d := .adr a_c) 0) (da_cons de_int da_nil)) ⟨(a_c, s4.1, 3), r21, rfl, rfl, hr21, rfl⟩ (fun _ _ h => h) [0, 1] [0, 1]) lv hx22) hg23) ⟨[0], rfl, by decide⟩) (by first | exact ⟨rfl, rfl⟩ | exact ⟨⟨rfl, rfl⟩, fun z => z⟩ | exact ⟨⟨⟨rfl, rfl⟩, fun z => z⟩, fun z => z⟩ | exact ⟨⟨⟨⟨rfl, rfl⟩, fun z => z⟩, fun z => z⟩, fun z => z⟩)
end
end K44
end

section
set_option Elab.async false
set_option linter.all false
set_option maxRecDepth 100000
set_option maxHeartbeats 4000000
namespace K44
open PySem L2 Q TL
section
variable {P : Program} {w : World} {K : PySem.W.Frag} {mg : Str → Option Value} {base : Heap}
theorem ok_law_number (T : Txt P K mg) : FnOk P w K mg base CX0 1 T.f_law_number T.d_law_number ["token", "most"] (SpC (Mir (A := Wd × Int) (fun x => m_law_number x.1 x.2) (fun x => [.v (cS x.1), .v (cI x.2)]) (fun x => []) (fun x t => .v ((cO cI) t)) (fun x t => []))) := by
  refine fn_d (k := 0) T.F_law_number sc_law_number (by rintro _ _ _ ⟨x, t, rfl, _⟩; rfl) (by decide) fun cdv A outer s H E ds ω Pr hr hR => ?_
  obtain ⟨x, t, rfl, rfl, hm, rfl⟩ := hR
  obtain ⟨x_token, x_most⟩ := x
  have nd := sc_law_number.nd
  have hu := hr.units
  change m_law_number x_token x_most = some t at hm
  unfold m_law_number at hm
  change DSs _ _ [some (.v (cS x_token)), some (.v (cI x_most)), none] [] _
  refine dss_if1 (ω1 := []) (dt_bool (dw_or (dt_c (de_var (d := .v (cS x_token)) 0) (de_str ([] : Wd)) c_eqS) (fun _ => (dw_or (dt_c (de_lenS T.z_len (de_var (d := .v (cS x_token)) 0)) de_int c_gt) (fun _ => (dw_or1 (dt_not (dt_val (de_all (bs := List.map (fun (e1 : Nat) => (decide (e1 ∈ ([48, 49, 50, 51, 52, 53, 54, 55, 56, 57] : Wd)))) x_token) rfl T.z_all (de_froz (dn_of (comp_d (cy := cB) [("sign", 2)] (.nm 2) _ (fun z => .v (cS [z])) (fun s2 => []) _ _ _ (compO_map (fun (e1 : Nat) => (decide (e1 ∈ ([48, 49, 50, 51, 52, 53, 54, 55, 56, 57] : Wd)))) x_token) (di_str (de_var (d := .v (cS x_token)) 0)) (Pk.refl _) (blkOk_by (N := ["token", "most", "sign"]) (sc := defScope s_law_number) (own := [("sign", 2)]) (by decide +kernel)) (fun _ _ _ _ _ => pg_name (i := 2) nd rfl (by first | exact Or.inl rfl | exact Or.inr rfl)) (by intro i hi; revert i hi; decide) (fun _ => rfl) (fun _ _ _ _ hb _ _ _ _ _ => by cases (some_i hb); exact dts_nil) (fun e1 s2 _ hx _ hb _ _ _ _ _ => by
          have hm := hb
          have hq := some_i hm
          subst hq
          exact (de_c (de_var (d := .v (cS [e1])) 2) (de_str ([48, 49, 50, 51, 52, 53, 54, 55, 56, 57] : Wd)) c_inS)))))))))) (fun _ => rfl))) (fun _ => rfl))) (fun hk => ?_) (fun hk => ?_)
  · have hm := cnd_t hk hm
    have hq := some_i hm
    subst hq
    exact dss_ret (ω1 := []) de_non (by first | exact ⟨rfl, rfl⟩ | exact ⟨⟨rfl, rfl⟩, fun z => z⟩ | exact ⟨⟨⟨rfl, rfl⟩, fun z => z⟩, fun z => z⟩ | exact ⟨⟨⟨⟨rfl, rfl⟩, fun z => z⟩, fun z => z⟩, fun z => z⟩)
  · have hm := cnd_f hk hm
    obtain ⟨b4, hb4, hm⟩ := bnd hm
    obtain ⟨b7, hb7, hm⟩ := bnd hm
    refine dss_if1 (ω1 := []) (dt_bool (dw_is (dw_or (dt_bool (dw_is (dw_and (dt_c (de_lenS T.z_len (de_var (d := .v (cS x_token)) 0)) de_int c_gt) (fun hk5 => by
        have hm := cnd_t hk5 hb4
        obtain ⟨z3, hz3, hm⟩ := bnd hm
        have hq := some_i hm
        subst hq
        exact (dw_and1 (dt_c (de_ixS (de_var (d := .v (cS x_token)) 0) de_int hz3) (de_str ([48] : Wd)) c_eqS))) (fun _ => rfl)) (and_val hb4))) (fun hk8 => by
        have hm := cnd_f hk8 hb7
        obtain ⟨x6, hx6, hm⟩ := bnd hm
        have hq := some_i hm
        subst hq
        exact (dw_or1 (dt_c (de_intS T.z_int (de_var (d := .v (cS x_token)) 0) hx6) (de_var (d := .v (cI x_most)) 1) c_ge))) (fun _ => rfl)) (or_val hb7))) (fun hk => ?_) (fun hk => ?_)
    · have hm := cnd_t hk hm
      have hq := some_i hm
      subst hq
      exact dss_ret (ω1 := []) de_non (by first | exact ⟨rfl, rfl⟩ | exact ⟨⟨rfl, rfl⟩, fun z => z⟩ | exact ⟨⟨⟨rfl, rfl⟩, fun z => z⟩, fun z => z⟩ | exact ⟨⟨⟨⟨rfl, rfl⟩, fun z => z⟩, fun z => z⟩, fun z => z⟩)
    · have hm := cnd_f hk hm
      obtain ⟨x9, hx9, hm⟩ := bnd hm
      have hq := some_i hm
      subst hq
      exact dss_ret (ω1 := []) (de_intS T.z_int (de_var (d := .v (cS x_token)) 0) hx9) (by first | exact ⟨rfl, rfl⟩ | exact ⟨⟨rfl, rfl⟩, fun z => z⟩ | exact ⟨⟨⟨rfl, rfl⟩, fun z => z⟩, fun z => z⟩ | exact ⟨⟨⟨⟨rfl, rfl⟩, fun z => z⟩, fun z => z⟩, fun z => z⟩)
end
end K44
end

section
set_option Elab.async false
set_option linter.all false
set_option maxRecDepth 100000
set_option maxHeartbeats 4000000
namespace K44
open PySem L2 Q TL
section
variable {P : Program} {w : World} {K : PySem.W.Frag} {mg : Str → Option Value} {base : Heap}
theorem ok_law_token (T : Txt P K mg) : FnOk P w K mg base CX0 1 T.f_law_token T.d_law_token ["token"] (SpC (Mir (A := Wd) (fun x => m_law_token x) (fun x => [.v (cS x)]) (fun x => []) (fun x t => .v ((cO cS) t)) (fun x t => []))) := by
  refine fn_d (k := 0) T.F_law_token sc_law_token (by rintro _ _ _ ⟨x, t, rfl, _⟩; rfl) (by decide) fun cdv A outer s H E ds ω Pr hr hR => ?_
  obtain ⟨x_token, t, rfl, rfl, hm, rfl⟩ := hR
  skip
  have nd := sc_law_token.nd
  have hu := hr.units
  change m_law_token x_token = some t at hm
  unfold m_law_token at hm
  change DSs _ _ [some (.v (cS x_token)), none] [] _
  refine dss_if1 (ω1 := []) (dt_c (de_var (d := .v (cS x_token)) 0) (de_str ([45] : Wd)) c_eqS) (fun hk => ?_) (fun hk => ?_)
  · have hm := cnd_t hk hm
    have hq := some_i hm
    subst hq
    exact dss_ret (ω1 := []) (de_str ([] : Wd)) (by first | exact ⟨rfl, rfl⟩ | exact ⟨⟨rfl, rfl⟩, fun z => z⟩ | exact ⟨⟨⟨rfl, rfl⟩, fun z => z⟩, fun z => z⟩ | exact ⟨⟨⟨⟨rfl, rfl⟩, fun z => z⟩, fun z => z⟩, fun z => z⟩)
  · have hm := cnd_f hk hm
    obtain ⟨y3, hy3, hm⟩ := bnd hm
    have hq := some_i hm
    subst hq
    exact dss_ret (ω1 := []) (de_if (d := .v ((cO cS) y3)) (ω2 := []) (dt_val (de_all (bs := List.map (fun (e1 : Nat) => (decide (e1 ∈ ([97, 98, 99, 100, 101, 102, 103, 104, 105, 106, 107, 108, 109, 110, 111, 112, 113, 114, 115, 116, 117, 118, 119, 120, 121, 122] : Wd)))) x_token) rfl T.z_all (de_froz (dn_of (comp_d (cy := cB) [("sign", 1)] (.nm 1) _ (fun z => .v (cS [z])) (fun s2 => []) _ _ _ (compO_map (fun (e1 : Nat) => (decide (e1 ∈ ([97, 98, 99, 100, 101, 102, 103, 104, 105, 106, 107, 108, 109, 110, 111, 112, 113, 114, 115, 116, 117, 118, 119, 120, 121, 122] : Wd)))) x_token) (di_str (de_var (d := .v (cS x_token)) 0)) (Pk.refl _) (blkOk_by (N := ["token", "sign"]) (sc := defScope s_law_token) (own := [("sign", 1)]) (by decide +kernel)) (fun _ _ _ _ _ => pg_name (i := 1) nd rfl (by first | exact Or.inl rfl | exact Or.inr rfl)) (by intro i hi; revert i hi; decide) (fun _ => rfl) (fun _ _ _ _ hb _ _ _ _ _ => by cases (some_i hb); exact dts_nil) (fun e1 s2 _ hx _ hb _ _ _ _ _ => by
          have hm := hb
          have hq := some_i hm
          subst hq
          exact (de_c (de_var (d := .v (cS [e1])) 1) (de_str ([97, 98, 99, 100, 101, 102, 103, 104, 105, 106, 107, 108, 109, 110, 111, 112, 113, 114, 115, 116, 117, 118, 119, 120, 121, 122] : Wd)) c_inS))))))) (fun hk => by
        have hm := cnd_t hk hy3
  
        have hq := some_i hm
        subst hq
        exact (de_var (d := .v (cS x_token)) 0)) (fun hk => by
        have hm := cnd_f hk hy3
  
        have hq := some_i hm
        subst hq
        exact de_non)) (by first | exact ⟨rfl, rfl⟩ | exact ⟨⟨rfl, rfl⟩, fun z => z⟩ | exact ⟨⟨⟨rfl, rfl⟩, fun z => z⟩, fun z => z⟩ | exact ⟨⟨⟨⟨rfl, rfl⟩, fun z => z⟩, fun z => z⟩, fun z => z⟩)
end
end K44
end

section
set_option Elab.async false
set_option linter.all false
set_option maxRecDepth 100000
set_option maxHeartbeats 4000000
namespace K44
open PySem L2 Q TL
section
variable {P : Program} {w : World} {K : PySem.W.Frag} {mg : Str → Option Value} {base : Heap}
theorem ok_law_line (T : Txt P K mg) : FnOk P w K mg base CX0 2 T.f_law_line T.d_law_line ["tokens", "many"] (SpC (Mir (A := (List Wd) × Int) (fun x => m_law_line x.1 x.2) (fun x => [.v ((cL cS) x.1), .v (cI x.2)]) (fun x => []) (fun x t => .v (cP t)) (fun x t => []))) := by
  refine fn_d (k := 1) T.F_law_line sc_law_line (by rintro _ _ _ ⟨x, t, rfl, _⟩; rfl) (by decide) fun cdv A outer s H E ds ω Pr hr hR => ?_
  obtain ⟨x, t, rfl, rfl, hm, rfl⟩ := hR
  obtain ⟨x_tokens, x_many⟩ := x
  have nd := sc_law_line.nd
  have hu := hr.units
  change m_law_line x_tokens x_many = some t at hm
  unfold m_law_line at hm
  change DSs _ _ [some (.v ((cL cS) x_tokens)), some (.v (cI x_many)), none, none] [] _
  obtain ⟨y4, hy4, hm⟩ := bnd hm
  refine dss_set (d := .v ((cO cS) y4)) (ρ' := [some (.v ((cL cS) x_tokens)), some (.v (cI x_many)), some (.v ((cO cS) y4)), none]) (ω1 := []) 2 (de_if (d := .v ((cO cS) y4)) (ω2 := []) (dt_c (de_lenLt (c := cS) (xs := x_tokens) T.z_len (de_var (d := .v ((cL cS) x_tokens)) 0) lv) (de_tup (ps := [cI 3, cI 5]) (da_cons de_int (da_cons de_int da_nil))) (c_inTI (is := [3, 5]))) (fun hk => by
        have hm := cnd_t hk hy4
        obtain ⟨y1, hy1, hm⟩ := bnd hm
        obtain ⟨x2, hx2, hm⟩ := bnd hm
        obtain ⟨r3, hr3, hm⟩ := bnd hm
        have hq := some_i hm
        subst hq
        exact (de_call (d := .v ((cO cS) r3)) (ωp := []) (ωp' := []) (ωr := []) (ω2 := []) (ok_law_token T) (hr.mono (by decide)) T.m_law_token T.F_law_token.kp T.b_law_token (da_cons (de_ixLt (c := cS) (de_var (d := .v ((cL cS) x_tokens)) 0) (de_if (d := .v (cI y1)) (ω2 := []) (dt_c (de_lenLt (c := cS) (xs := x_tokens) T.z_len (de_var (d := .v ((cL cS) x_tokens)) 0) lv) de_int c_eqI) (fun hk => by
        have hm := cnd_t hk hy1
  
        have hq := some_i hm
        subst hq
        exact de_int) (fun hk => by
        have hm := cnd_f hk hy1
  
        have hq := some_i hm
        subst hq
        exact de_int)) lv hx2) da_nil) ⟨x2, r3, rfl, rfl, hr3, rfl⟩ (fun _ _ h => h) [] [])) (fun hk => by
        have hm := cnd_f hk hy4
  
        have hq := some_i hm
        subst hq
        exact de_non)) ?_
  obtain ⟨b7, hb7, hm⟩ := bnd hm
  refine dss_if1 (ω1 := []) (dt_bool (dw_is (dw_or (dt_c (de_var (d := .v ((cO cS) y4)) 2) de_non (c_isNo (isN_cO (fun _ => rfl) y4))) (fun hk8 => by
        have hm := cnd_f hk8 hb7
        obtain ⟨x5, hx5, hm⟩ := bnd hm
        obtain ⟨r6, hr6, hm⟩ := bnd hm
        have hq := some_i hm
        subst hq
        exact (dw_or1 (dt_c (de_call (d := .v ((cO cI) r6)) (ωp := []) (ωp' := []) (ωr := []) (ω2 := []) (ok_law_number T) (hr.mono (by decide)) T.m_law_number T.F_law_number.kp T.b_law_number (da_cons (de_ixLt (c := cS) (de_var (d := .v ((cL cS) x_tokens)) 0) de_int lv hx5) (da_cons (de_var (d := .v (cI x_many)) 1) da_nil)) ⟨(x5, x_many), r6, rfl, rfl, hr6, rfl⟩ (fun _ _ h => h) [] []) de_non (c_isNo (isN_cO (fun _ => rfl) r6))))) (fun _ => rfl)) (or_val hb7))) (fun hk => ?_) (fun hk => ?_)
  · have hm := cnd_t hk hm
    have hq := some_i hm
    subst hq
    exact dss_ret (ω1 := []) de_non (by first | exact ⟨rfl, rfl⟩ | exact ⟨⟨rfl, rfl⟩, fun z => z⟩ | exact ⟨⟨⟨rfl, rfl⟩, fun z => z⟩, fun z => z⟩ | exact ⟨⟨⟨⟨rfl, rfl⟩, fun z => z⟩, fun z => z⟩, fun z => z⟩)
  · have hm := cnd_f hk hm
    refine dss_if1 (ω1 := []) (dt_c (de_lenLt (c := cS) (xs := x_tokens) T.z_len (de_var (d := .v ((cL cS) x_tokens)) 0) lv) de_int c_eqI) (fun hk => ?_) (fun hk => ?_)
    · have hm := cnd_t hk hm
      obtain ⟨x9, hx9, hm⟩ := bnd hm
      obtain ⟨y12, hy12, hm⟩ := bnd hm
      have hq := some_i hm
      subst hq
      exact dss_ret (ω1 := []) (de_if (d := .v y12) (ω2 := []) (dt_c (de_ixLt (c := cS) (de_var (d := .v ((cL cS) x_tokens)) 0) de_int lv hx9) (de_tup (ps := [cS ([115, 116, 97, 114, 116] : Wd), cS ([101, 110, 100] : Wd)]) (da_cons (de_str ([115, 116, 97, 114, 116] : Wd)) (da_cons (de_str ([101, 110, 100] : Wd)) da_nil))) (c_inTS (ws := [([115, 116, 97, 114, 116] : Wd), ([101, 110, 100] : Wd)]))) (fun hk => by
        have hm := cnd_t hk hy12
        obtain ⟨x10, hx10, hm⟩ := bnd hm
        obtain ⟨x11, hx11, hm⟩ := bnd hm
        have hq := some_i hm
        subst hq
        exact (de_tup (ps := [cI x11, (cO cS) y4]) (da_cons (de_intS T.z_int (de_ixLt (c := cS) (de_var (d := .v ((cL cS) x_tokens)) 0) de_int lv hx10) hx11) (da_cons (de_var (d := .v ((cO cS) y4)) 2) da_nil)))) (fun hk => by
        have hm := cnd_f hk hy12
  
        have hq := some_i hm
        subst hq
        exact de_non)) (by first | exact ⟨rfl, rfl⟩ | exact ⟨⟨rfl, rfl⟩, fun z => z⟩ | exact ⟨⟨⟨rfl, rfl⟩, fun z => z⟩, fun z => z⟩ | exact ⟨⟨⟨⟨rfl, rfl⟩, fun z => z⟩, fun z => z⟩, fun z => z⟩)
    · have hm := cnd_f hk hm
      obtain ⟨x13, hx13, hm⟩ := bnd hm
      refine dss_set (d := .v (cS x13)) (ρ' := [some (.v ((cL cS) x_tokens)), some (.v (cI x_many)), some (.v ((cO cS) y4)), some (.v (cS x13))]) (ω1 := []) 3 (de_ixLt (c := cS) (de_var (d := .v ((cL cS) x_tokens)) 0) de_int lv hx13) ?_
      obtain ⟨x14, hx14, hm⟩ := bnd hm
      obtain ⟨b20, hb20, hm⟩ := bnd hm
      refine dss_if1 (ω1 := []) (dt_bool (dw_is (dw_or (dt_c (de_ixLt (c := cS) (de_var (d := .v ((cL cS) x_tokens)) 0) de_int lv hx14) (de_str ([101, 100, 103, 101] : Wd)) c_neS) (fun hk21 => by
        have hm := cnd_f hk21 hb20
        obtain ⟨b18, hb18, hm⟩ := bnd hm
        have hq := some_i hm
        subst hq
        exact (dw_is (dw_or (dt_c (de_lenS T.z_len (de_var (d := .v (cS x13)) 3)) de_int c_neI) (fun hk19 => by
        have hm := cnd_f hk19 hb18
        obtain ⟨b16, hb16, hm⟩ := bnd hm
        have hq := some_i hm
        subst hq
        exact (dw_is (dw_or (dt_c (de_var (d := .v (cS x13)) 3) (de_str ([45] : Wd)) c_eqS) (fun hk17 => by
        have hm := cnd_f hk17 hb16
        obtain ⟨r15, hr15, hm⟩ := bnd hm
        have hq := some_i hm
        subst hq
        exact (dw_or1 (dt_c (de_call (d := .v ((cO cS) r15)) (ωp := []) (ωp' := []) (ωr := []) (ω2 := []) (ok_law_token T) (hr.mono (by decide)) T.m_law_token T.F_law_token.kp T.b_law_token (da_cons (de_var (d := .v (cS x13)) 3) da_nil) ⟨x13, r15, rfl, rfl, hr15, rfl⟩ (fun _ _ h => h) [] []) de_non (c_isNo (isN_cO (fun _ => rfl) r15))))) (fun _ => rfl)) (or_val hb16))) (fun _ => rfl)) (or_val hb18))) (fun _ => rfl)) (or_val hb20))) (fun hk => ?_) (fun hk => ?_)
      · have hm := cnd_t hk hm
        have hq := some_i hm
        subst hq
        exact dss_ret (ω1 := []) de_non (by first | exact ⟨rfl, rfl⟩ | exact ⟨⟨rfl, rfl⟩, fun z => z⟩ | exact ⟨⟨⟨rfl, rfl⟩, fun z => z⟩, fun z => z⟩ | exact ⟨⟨⟨⟨rfl, rfl⟩, fun z => z⟩, fun z => z⟩, fun z => z⟩)
      · have hm := cnd_f hk hm
        obtain ⟨x22, hx22, hm⟩ := bnd hm
        obtain ⟨r23, hr23, hm⟩ := bnd hm
        obtain ⟨y28, hy28, hm⟩ := bnd hm
        have hq := some_i hm
        subst hq
        exact dss_ret (ω1 := []) (de_if (d := .v y28) (ω2 := []) (dt_c (de_call (d := .v ((cO cI) r23)) (ωp := []) (ωp' := []) (ωr := []) (ω2 := []) (ok_law_number T) (hr.mono (by decide)) T.m_law_number T.F_law_number.kp T.b_law_number (da_cons (de_ixLt (c := cS) (de_var (d := .v ((cL cS) x_tokens)) 0) de_int lv hx22) (da_cons (de_var (d := .v (cI x_many)) 1) da_nil)) ⟨(x22, x_many), r23, rfl, rfl, hr23, rfl⟩ (fun _ _ h => h) [] []) de_non (c_isNo (isN_cO (fun _ => rfl) r23))) (fun hk => by
        have hm := cnd_t hk hy28
  
        have hq := some_i hm
        subst hq
        exact de_non) (fun hk => by
        have hm := cnd_f hk hy28
        obtain ⟨x24, hx24, hm⟩ := bnd hm
        obtain ⟨x25, hx25, hm⟩ := bnd hm
        obtain ⟨x26, hx26, hm⟩ := bnd hm
        obtain ⟨x27, hx27, hm⟩ := bnd hm
        have hq := some_i hm
        subst hq
        exact (de_tup (ps := [cI x25, cS x13, (cO cS) y4, cI x27]) (da_cons (de_intS T.z_int (de_ixLt (c := cS) (de_var (d := .v ((cL cS) x_tokens)) 0) de_int lv hx24) hx25) (da_cons (de_var (d := .v (cS x13)) 3) (da_cons (de_var (d := .v ((cO cS) y4)) 2) (da_cons (de_intS T.z_int (de_ixLt (c := cS) (de_var (d := .v ((cL cS) x_tokens)) 0) de_int lv hx26) hx27) da_nil))))))) (by first | exact ⟨rfl, rfl⟩ | exact ⟨⟨rfl, rfl⟩, fun z => z⟩ | exact ⟨⟨⟨rfl, rfl⟩, fun z => z⟩, fun z => z⟩ | exact ⟨⟨⟨⟨rfl, rfl⟩, fun z => z⟩, fun z => z⟩, fun z => z⟩)
end
end K44
end

section
set_option Elab.async false
set_option linter.all false
set_option maxRecDepth 100000
set_option maxHeartbeats 4000000
namespace K44
open PySem L2 Q TL
section
variable {P : Program} {w : World} {K : PySem.W.Frag} {mg : Str → Option Value} {base : Heap}
theorem ok_law_broken (T : Txt P K mg) : FnOk P w K mg base CX0 3 T.f_law_broken T.d_law_broken ["c", "lines"] (SpC (Mir (A := Addr × CS × (List (List Wd))) (fun x => m_law_broken x.2.1 x.2.2) (fun x => [.adr x.1, .v ((cL (cL cS)) x.2.2)]) (fun x => [(x.1, .lst [(cL cI) x.2.1.1, cI x.2.1.2.1, cI x.2.1.2.2.1, cI x.2.1.2.2.2.1, cI x.2.1.2.2.2.2])]) (fun x t => .v ((cL (cL cS)) t.1)) (fun x t => [(x.1, .lst [(cL cI) t.2.1, cI t.2.2.1, cI t.2.2.2.1, cI t.2.2.2.2.1, cI t.2.2.2.2.2])]))) := by
  refine fn_d (k := 2) T.F_law_broken sc_law_broken (by rintro _ _ _ ⟨x, t, rfl, _⟩; rfl) (by decide) fun cdv A outer s H E ds ω Pr hr hR => ?_
  obtain ⟨x, t, rfl, rfl, hm, rfl⟩ := hR
  obtain ⟨a_c, x_c, x_lines⟩ := x
  have nd := sc_law_broken.nd
  have hu := hr.units
  change m_law_broken x_c x_lines = some t at hm
  unfold m_law_broken at hm
  change DSs _ _ [some (.adr a_c), some (.v ((cL (cL cS)) x_lines)), none, none, none, none, none, none, none] [(a_c, .lst [(cL cI) x_c.1, cI x_c.2.1, cI x_c.2.2.1, cI x_c.2.2.2.1, cI x_c.2.2.2.2])] _
  obtain ⟨r1, hr1, hm⟩ := bnd hm
  refine dss_set (d := .v (cI r1.1)) (ρ' := [some (.adr a_c), some (.v ((cL (cL cS)) x_lines)), some (.v (cI r1.1)), none, none, none, none, none, none]) (ω1 := [(a_c, .lst [(cL cI) r1.2.1, cI r1.2.2.1, cI r1.2.2.2.1, cI r1.2.2.2.2.1, cI r1.2.2.2.2.2])]) 2 (de_call (d := .v (cI r1.1)) (ωp := [(a_c, .lst [(cL cI) x_c.1, cI x_c.2.1, cI x_c.2.2.1, cI x_c.2.2.2.1, cI x_c.2.2.2.2])]) (ωp' := [(a_c, .lst [(cL cI) r1.2.1, cI r1.2.2.1, cI r1.2.2.2.1, cI r1.2.2.2.2.1, cI r1.2.2.2.2.2])]) (ωr := []) (ω2 := [(a_c, .lst [(cL cI) r1.2.1, cI r1.2.2.1, cI r1.2.2.2.1, cI r1.2.2.2.2.1, cI r1.2.2.2.2.2])]) (ok_law_take T) (hr.mono (by decide)) T.m_law_take T.F_law_take.kp T.b_law_take (da_cons (de_var (d := .adr a_c) 0) (da_cons (de_lenLt (c := (cL cS)) (xs := x_lines) T.z_len (de_var (d := .v ((cL (cL cS)) x_lines)) 1) lv) da_nil)) ⟨(a_c, x_c, (x_lines.length : Int)), r1, rfl, rfl, hr1, rfl⟩ (fun _ _ h => h) [0] [0]) ?_
  obtain ⟨x2, hx2, hm⟩ := bnd hm
  refine dss_set (d := .v ((cL cS) x2)) (ρ' := [some (.adr a_c), some (.v ((cL (cL cS)) x_lines)), some (.v (cI r1.1)), some (.v ((cL cS) x2)), none, none, none, none, none]) (ω1 := [(a_c, .lst [(cL cI) r1.2.1, cI r1.2.2.1, cI r1.2.2.2.1, cI r1.2.2.2.2.1, cI r1.2.2.2.2.2])]) 3 (de_froz (dn_listL (ps := List.map cS x2) T.z_list (de_ixLt (c := (cL cS)) (de_var (d := .v ((cL (cL cS)) x_lines)) 1) (de_var (d := .v (cI r1.1)) 2) lv hx2) lv)) ?_
  obtain ⟨r3, hr3, hm⟩ := bnd hm
  refine dss_set (d := .v (cI r3.1)) (ρ' := [some (.adr a_c), some (.v ((cL (cL cS)) x_lines)), some (.v (cI r1.1)), some (.v ((cL cS) x2)), some (.v (cI r3.1)), none, none, none, none]) (ω1 := [(a_c, .lst [(cL cI) r3.2.1, cI r3.2.2.1, cI r3.2.2.2.1, cI r3.2.2.2.2.1, cI r3.2.2.2.2.2])]) 4 (de_call (d := .v (cI r3.1)) (ωp := [(a_c, .lst [(cL cI) r1.2.1, cI r1.2.2.1, cI r1.2.2.2.1, cI r1.2.2.2.2.1, cI r1.2.2.2.2.2])]) (ωp' := [(a_c, .lst [(cL cI) r3.2.1, cI r3.2.2.1, cI r3.2.2.2.1, cI r3.2.2.2.2.1, cI r3.2.2.2.2.2])]) (ωr := []) (ω2 := [(a_c, .lst [(cL cI) r3.2.1, cI r3.2.2.1, cI r3.2.2.2.1, cI r3.2.2.2.2.1, cI r3.2.2.2.2.2])]) (ok_law_take T) (hr.mono (by decide)) T.m_law_take T.F_law_take.kp T.b_law_take (da_cons (de_var (d := .adr a_c) 0) (da_cons de_int da_nil)) ⟨(a_c, r1.2, 8), r3, rfl, rfl, hr3, rfl⟩ (fun _ _ h => h) [0] [0]) ?_
  refine dss_if1 (ω1 := [(a_c, .lst [(cL cI) r3.2.1, cI r3.2.2.1, cI r3.2.2.2.1, cI r3.2.2.2.2.1, cI r3.2.2.2.2.2])]) (dt_bool (dw_or (dt_c (de_var (d := .v (cI r3.1)) 4) de_int c_eqI) (fun _ => (dw_or1 (dt_not (dt_truLt (c := cS) (xs := x2) (de_var (d := .v ((cL cS) x2)) 3))))) (fun _ => rfl))) (fun hk => ?_) (fun hk => ?_)
  · have hm := cnd_t hk hm
    obtain ⟨hg4, hm⟩ := gd_some hm
    have hq := some_i hm
    subst hq
    exact dss_ret (ω1 := [(a_c, .lst [(cL cI) r3.2.1, cI r3.2.2.1, cI r3.2.2.2.1, cI r3.2.2.2.2.1, cI r3.2.2.2.2.2])]) (de_froz (dn_catT (c := (cL cS)) (xs := cut x_lines none (some r1.1)) (ys := cut x_lines (some (r1.1 + 1)) none) (de_froz (dn_sliceLt (c := (cL cS)) (xs := x_lines) (de_var (d := .v ((cL (cL cS)) x_lines)) 1) do_none (do_some (de_var (d := .v (cI r1.1)) 2)) lv)) (de_froz (dn_sliceLt (c := (cL cS)) (xs := x_lines) (de_var (d := .v ((cL (cL cS)) x_lines)) 1) (do_some (de_add (de_var (d := .v (cI r1.1)) 2) de_int)) do_none lv)) lv lv hg4)) (by first | exact ⟨rfl, rfl⟩ | exact ⟨⟨rfl, rfl⟩, fun z => z⟩ | exact ⟨⟨⟨rfl, rfl⟩, fun z => z⟩, fun z => z⟩ | exact ⟨⟨⟨⟨rfl, rfl⟩, fun z => z⟩, fun z => z⟩, fun z => z⟩)
  · have hm := cnd_f hk hm
    refine dss_if1 (ω1 := [(a_c, .lst [(cL cI) r3.2.1, cI r3.2.2.1, cI r3.2.2.2.1, cI r3.2.2.2.2.1, cI r3.2.2.2.2.2])]) (dt_c (de_var (d := .v (cI r3.1)) 4) de_int c_eqI) (fun hk => ?_) (fun hk => ?_)
    · have hm := cnd_t hk hm
      obtain ⟨r5, hr5, hm⟩ := bnd hm
      refine dss_set (d := .v (cI r5.1)) (ρ' := [some (.adr a_c), some (.v ((cL (cL cS)) x_lines)), some (.v (cI r1.1)), some (.v ((cL cS) x2)), some (.v (cI r3.1)), none, none, none, some (.v (cI r5.1))]) (ω1 := [(a_c, .lst [(cL cI) r5.2.1, cI r5.2.2.1, cI r5.2.2.2.1, cI r5.2.2.2.2.1, cI r5.2.2.2.2.2])]) 8 (de_call (d := .v (cI r5.1)) (ωp := [(a_c, .lst [(cL cI) r3.2.1, cI r3.2.2.1, cI r3.2.2.2.1, cI r3.2.2.2.2.1, cI r3.2.2.2.2.2])]) (ωp' := [(a_c, .lst [(cL cI) r5.2.1, cI r5.2.2.1, cI r5.2.2.2.1, cI r5.2.2.2.2.1, cI r5.2.2.2.2.2])]) (ωr := []) (ω2 := [(a_c, .lst [(cL cI) r5.2.1, cI r5.2.2.1, cI r5.2.2.2.1, cI r5.2.2.2.2.1, cI r5.2.2.2.2.2])]) (ok_law_take T) (hr.mono (by decide)) T.m_law_take T.F_law_take.kp T.b_law_take (da_cons (de_var (d := .adr a_c) 0) (da_cons (de_lenLt (c := (cL cS)) (xs := x_lines) T.z_len (de_var (d := .v ((cL (cL cS)) x_lines)) 1) lv) da_nil)) ⟨(a_c, r3.2, (x_lines.length : Int)), r5, rfl, rfl, hr5, rfl⟩ (fun _ _ h => h) [0] [0]) ?_
      obtain ⟨hg6, hm⟩ := gd_some hm
      obtain ⟨hg7, hm⟩ := gd_some hm
      obtain ⟨hg8, hm⟩ := gd_some hm
      have hq := some_i hm
      subst hq
      exact dss_ret (ω1 := [(a_c, .lst [(cL cI) r5.2.1, cI r5.2.2.1, cI r5.2.2.2.1, cI r5.2.2.2.2.1, cI r5.2.2.2.2.2])]) (de_froz (dn_catT (c := (cL cS)) (xs := ((cut x_lines none (some r1.1) ++ cut (cut x_lines (some (r1.1 + 1)) none) none (some r5.1)) ++ ([x2] : List (List Wd)))) (ys := cut (cut x_lines (some (r1.1 + 1)) none) (some r5.1) none) (de_froz (dn_catT (c := (cL cS)) (xs := (cut x_lines none (some r1.1) ++ cut (cut x_lines (some (r1.1 + 1)) none) none (some r5.1))) (ys := ([x2] : List (List Wd))) (de_froz (dn_catT (c := (cL cS)) (xs := cut x_lines none (some r1.1)) (ys := cut (cut x_lines (some (r1.1 + 1)) none) none (some r5.1)) (de_froz (dn_sliceLt (c := (cL cS)) (xs := x_lines) (de_var (d := .v ((cL (cL cS)) x_lines)) 1) do_none (do_some (de_var (d := .v (cI r1.1)) 2)) lv)) (de_froz (dn_sliceLt (c := (cL cS)) (xs := cut x_lines (some (r1.1 + 1)) none) (de_froz (dn_sliceLt (c := (cL cS)) (xs := x_lines) (de_var (d := .v ((cL (cL cS)) x_lines)) 1) (do_some (de_add (de_var (d := .v (cI r1.1)) 2) de_int)) do_none lv)) do_none (do_some (de_var (d := .v (cI r5.1)) 8)) lv)) lv lv hg6)) (de_froz (dn_lst (ps := List.map (cL cS) ([x2] : List (List Wd))) (da_cons (de_var (d := .v ((cL cS) x2)) 3) da_nil))) lv lv hg7)) (de_froz (dn_sliceLt (c := (cL cS)) (xs := cut x_lines (some (r1.1 + 1)) none) (de_froz (dn_sliceLt (c := (cL cS)) (xs := x_lines) (de_var (d := .v ((cL (cL cS)) x_lines)) 1) (do_some (de_add (de_var (d := .v (cI r1.1)) 2) de_int)) do_none lv)) (do_some (de_var (d := .v (cI r5.1)) 8)) do_none lv)) lv lv hg8)) (by first | exact ⟨rfl, rfl⟩ | exact ⟨⟨rfl, rfl⟩, fun z => z⟩ | exact ⟨⟨⟨rfl, rfl⟩, fun z => z⟩, fun z => z⟩ | exact ⟨⟨⟨⟨rfl, rfl⟩, fun z => z⟩, fun z => z⟩, fun z => z⟩)
    · have hm := cnd_f hk hm
      obtain ⟨r9, hr9, hm⟩ := bnd hm
      refine dss_set (d := .v (cI r9.1)) (ρ' := [some (.adr a_c), some (.v ((cL (cL cS)) x_lines)), some (.v (cI r1.1)), some (.v ((cL cS) x2)), some (.v (cI r3.1)), some (.v (cI r9.1)), none, none, none]) (ω1 := [(a_c, .lst [(cL cI) r9.2.1, cI r9.2.2.1, cI r9.2.2.2.1, cI r9.2.2.2.2.1, cI r9.2.2.2.2.2])]) 5 (de_call (d := .v (cI r9.1)) (ωp := [(a_c, .lst [(cL cI) r3.2.1, cI r3.2.2.1, cI r3.2.2.2.1, cI r3.2.2.2.2.1, cI r3.2.2.2.2.2])]) (ωp' := [(a_c, .lst [(cL cI) r9.2.1, cI r9.2.2.1, cI r9.2.2.2.1, cI r9.2.2.2.2.1, cI r9.2.2.2.2.2])]) (ωr := []) (ω2 := [(a_c, .lst [(cL cI) r9.2.1, cI r9.2.2.1, cI r9.2.2.2.1, cI r9.2.2.2.2.1, cI r9.2.2.2.2.2])]) (ok_law_take T) (hr.mono (by decide)) T.m_law_take T.F_law_take.kp T.b_law_take (da_cons (de_var (d := .adr a_c) 0) (da_cons (de_add (de_lenLt (c := cS) (xs := x2) T.z_len (de_var (d := .v ((cL cS) x2)) 3) lv) de_int) da_nil)) ⟨(a_c, r3.2, ((x2.length : Int) + 1)), r9, rfl, rfl, hr9, rfl⟩ (fun _ _ h => h) [0] [0]) ?_
      obtain ⟨v10, hv10, hm⟩ := lt_some hm
      refine dss_set (d := .v ((cL cS) v10)) (ρ' := [some (.adr a_c), some (.v ((cL (cL cS)) x_lines)), some (.v (cI r1.1)), some (.v ((cL cS) x2)), some (.v (cI r3.1)), some (.v (cI r9.1)), some (.v ((cL cS) v10)), none, none]) (ω1 := [(a_c, .lst [(cL cI) r9.2.1, cI r9.2.2.1, cI r9.2.2.2.1, cI r9.2.2.2.2.1, cI r9.2.2.2.2.2])]) 6 (de_is (d := .v ((cL cS) ([([48] : Wd), ([49] : Wd), ([51] : Wd), ([48, 55] : Wd), ([49, 50, 51, 52, 53] : Wd), ([57, 57, 57, 57] : Wd), ([45] : Wd), ([97] : Wd), ([97, 98] : Wd), ([65] : Wd), ([115, 116, 97, 116, 101, 115] : Wd), ([115, 116, 97, 114, 116] : Wd), ([101, 100, 103, 101] : Wd), ([101, 110, 100] : Wd), ([45, 45] : Wd), ([49, 97] : Wd)] : List Wd))) (de_froz (dn_lst (ps := List.map cS ([([48] : Wd), ([49] : Wd), ([51] : Wd), ([48, 55] : Wd), ([49, 50, 51, 52, 53] : Wd), ([57, 57, 57, 57] : Wd), ([45] : Wd), ([97] : Wd), ([97, 98] : Wd), ([65] : Wd), ([115, 116, 97, 116, 101, 115] : Wd), ([115, 116, 97, 114, 116] : Wd), ([101, 100, 103, 101] : Wd), ([101, 110, 100] : Wd), ([45, 45] : Wd), ([49, 97] : Wd)] : List Wd)) (da_cons (de_str ([48] : Wd)) (da_cons (de_str ([49] : Wd)) (da_cons (de_str ([51] : Wd)) (da_cons (de_str ([48, 55] : Wd)) (da_cons (de_str ([49, 50, 51, 52, 53] : Wd)) (da_cons (de_str ([57, 57, 57, 57] : Wd)) (da_cons (de_str ([45] : Wd)) (da_cons (de_str ([97] : Wd)) (da_cons (de_str ([97, 98] : Wd)) (da_cons (de_str ([65] : Wd)) (da_cons (de_str ([115, 116, 97, 116, 101, 115] : Wd)) (da_cons (de_str ([115, 116, 97, 114, 116] : Wd)) (da_cons (de_str ([101, 100, 103, 101] : Wd)) (da_cons (de_str ([101, 110, 100] : Wd)) (da_cons (de_str ([45, 45] : Wd)) (da_cons (de_str ([49, 97] : Wd)) da_nil)))))))))))))))))) (by rw [hv10])) ?_
      obtain ⟨hg11, hm⟩ := gd_some hm
      obtain ⟨v12, hv12, hm⟩ := lt_some hm
      refine dss_set (d := .v ((cL cS) v12)) (ρ' := [some (.adr a_c), some (.v ((cL (cL cS)) x_lines)), some (.v (cI r1.1)), some (.v ((cL cS) x2)), some (.v (cI r3.1)), some (.v (cI r9.1)), some (.v ((cL cS) v12)), none, none]) (ω1 := [(a_c, .lst [(cL cI) r9.2.1, cI r9.2.2.1, cI r9.2.2.2.1, cI r9.2.2.2.2.1, cI r9.2.2.2.2.2])]) 6 (de_is (d := .v ((cL cS) (v10 ++ ([([9] : Wd), ([126] : Wd)] : List Wd)))) (de_froz (dn_catT (c := cS) (xs := v10) (ys := ([([9] : Wd), ([126] : Wd)] : List Wd)) (de_var (d := .v ((cL cS) v10)) 6) (de_froz (dn_lst (ps := List.map cS ([([9] : Wd), ([126] : Wd)] : List Wd)) (da_cons (de_str ([9] : Wd)) (da_cons (de_str ([126] : Wd)) da_nil)))) lv lv hg11)) (by rw [hv12])) ?_
      obtain ⟨r13, hr13, hm⟩ := bnd hm
      obtain ⟨x14, hx14, hm⟩ := bnd hm
      refine dss_set (d := .v (cS x14)) (ρ' := [some (.adr a_c), some (.v ((cL (cL cS)) x_lines)), some (.v (cI r1.1)), some (.v ((cL cS) x2)), some (.v (cI r3.1)), some (.v (cI r9.1)), some (.v ((cL cS) v12)), some (.v (cS x14)), none]) (ω1 := [(a_c, .lst [(cL cI) r13.2.1, cI r13.2.2.1, cI r13.2.2.2.1, cI r13.2.2.2.2.1, cI r13.2.2.2.2.2])]) 7 (de_ixLt (c := cS) (de_var (d := .v ((cL cS) v12)) 6) (de_call (d := .v (cI r13.1)) (ωp := [(a_c, .lst [(cL cI) r9.2.1, cI r9.2.2.1, cI r9.2.2.2.1, cI r9.2.2.2.2.1, cI r9.2.2.2.2.2])]) (ωp' := [(a_c, .lst [(cL cI) r13.2.1, cI r13.2.2.1, cI r13.2.2.2.1, cI r13.2.2.2.2.1, cI r13.2.2.2.2.2])]) (ωr := []) (ω2 := [(a_c, .lst [(cL cI) r13.2.1, cI r13.2.2.1, cI r13.2.2.2.1, cI r13.2.2.2.2.1, cI r13.2.2.2.2.2])]) (ok_law_take T) (hr.mono (by decide)) T.m_law_take T.F_law_take.kp T.b_law_take (da_cons (de_var (d := .adr a_c) 0) (da_cons (de_lenLt (c := cS) (xs := v12) T.z_len (de_var (d := .v ((cL cS) v12)) 6) lv) da_nil)) ⟨(a_c, r9.2, (v12.length : Int)), r13, rfl, rfl, hr13, rfl⟩ (fun _ _ h => h) [0] [0]) lv hx14) ?_
      obtain ⟨j29, hj29, hm⟩ := bnd hm
      refine dss_join (ω1 := [(a_c, .lst [(cL cI) r13.2.1, cI r13.2.2.1, cI r13.2.2.2.1, cI r13.2.2.2.2.1, cI r13.2.2.2.2.2])]) [some (.adr a_c), some (.v ((cL (cL cS)) x_lines)), some (.v (cI r1.1)), some (.v ((cL cS) j29)), some (.v (cI r3.1)), some (.v (cI r9.1)), some (.v ((cL cS) v12)), some (.v (cS x14)), none] [(a_c, .lst [(cL cI) r13.2.1, cI r13.2.2.1, cI r13.2.2.2.1, cI r13.2.2.2.2.1, cI r13.2.2.2.2.2])] (dt_c (de_var (d := .v (cI r3.1)) 4) de_int c_lt) (fun hk => ?_) (fun hk => ?_) ?_
      · have hm := cnd_t hk hj29
        obtain ⟨hg30, hm⟩ := gd_some hm
        obtain ⟨hg31, hm⟩ := gd_some hm
        obtain ⟨v32, hv32, hm⟩ := lt_some hm
        refine dss_set (d := .v ((cL cS) v32)) (ρ' := [some (.adr a_c), some (.v ((cL (cL cS)) x_lines)), some (.v (cI r1.1)), some (.v ((cL cS) v32)), some (.v (cI r3.1)), some (.v (cI r9.1)), some (.v ((cL cS) v12)), some (.v (cS x14)), none]) (ω1 := [(a_c, .lst [(cL cI) r13.2.1, cI r13.2.2.1, cI r13.2.2.2.1, cI r13.2.2.2.2.1, cI r13.2.2.2.2.2])]) 3 (de_is (d := .v ((cL cS) ((cut x2 none (some r9.1) ++ ([x14] : List Wd)) ++ cut x2 (some r9.1) none))) (de_froz (dn_catT (c := cS) (xs := (cut x2 none (some r9.1) ++ ([x14] : List Wd))) (ys := cut x2 (some r9.1) none) (de_froz (dn_catT (c := cS) (xs := cut x2 none (some r9.1)) (ys := ([x14] : List Wd)) (de_froz (dn_sliceLt (c := cS) (xs := x2) (de_var (d := .v ((cL cS) x2)) 3) do_none (do_some (de_var (d := .v (cI r9.1)) 5)) lv)) (de_froz (dn_lst (ps := List.map cS ([x14] : List Wd)) (da_cons (de_var (d := .v (cS x14)) 7) da_nil))) lv lv hg30)) (de_froz (dn_sliceLt (c := cS) (xs := x2) (de_var (d := .v ((cL cS) x2)) 3) (do_some (de_var (d := .v (cI r9.1)) 5)) do_none lv)) lv lv hg31)) (by rw [hv32])) ?_
        have hq := some_i hm
        subst hq
        exact dss_end ⟨.inr rfl, .inr rfl, .inr rfl, .inr rfl, .inr rfl, .inr rfl, .inr rfl, .inr rfl, .inl rfl, trivial⟩ ⟨[0], rfl, by decide⟩
      · have hm := cnd_f hk hj29
        obtain ⟨j38, hj38, hm⟩ := bnd hm
        refine dss_join (ω1 := [(a_c, .lst [(cL cI) r13.2.1, cI r13.2.2.1, cI r13.2.2.2.1, cI r13.2.2.2.2.1, cI r13.2.2.2.2.2])]) [some (.adr a_c), some (.v ((cL (cL cS)) x_lines)), some (.v (cI r1.1)), some (.v ((cL cS) j38)), some (.v (cI r3.1)), some (.v (cI r9.1)), some (.v ((cL cS) v12)), some (.v (cS x14)), none] [(a_c, .lst [(cL cI) r13.2.1, cI r13.2.2.1, cI r13.2.2.2.1, cI r13.2.2.2.2.1, cI r13.2.2.2.2.2])] (dt_c (de_var (d := .v (cI r3.1)) 4) de_int c_lt) (fun hk => ?_) (fun hk => ?_) ?_
        · have hm := cnd_t hk hj38
          obtain ⟨hg39, hm⟩ := gd_some hm
          obtain ⟨v40, hv40, hm⟩ := lt_some hm
          refine dss_set (d := .v ((cL cS) v40)) (ρ' := [some (.adr a_c), some (.v ((cL (cL cS)) x_lines)), some (.v (cI r1.1)), some (.v ((cL cS) v40)), some (.v (cI r3.1)), some (.v (cI r9.1)), some (.v ((cL cS) v12)), some (.v (cS x14)), none]) (ω1 := [(a_c, .lst [(cL cI) r13.2.1, cI r13.2.2.1, cI r13.2.2.2.1, cI r13.2.2.2.2.1, cI r13.2.2.2.2.2])]) 3 (de_is (d := .v ((cL cS) (cut x2 none (some r9.1) ++ cut x2 (some (r9.1 + 1)) none))) (de_froz (dn_catT (c := cS) (xs := cut x2 none (some r9.1)) (ys := cut x2 (some (r9.1 + 1)) none) (de_froz (dn_sliceLt (c := cS) (xs := x2) (de_var (d := .v ((cL cS) x2)) 3) do_none (do_some (de_var (d := .v (cI r9.1)) 5)) lv)) (de_froz (dn_sliceLt (c := cS) (xs := x2) (de_var (d := .v ((cL cS) x2)) 3) (do_some (de_add (de_var (d := .v (cI r9.1)) 5) de_int)) do_none lv)) lv lv hg39)) (by rw [hv40])) ?_
          have hq := some_i hm
          subst hq
          exact dss_end ⟨.inr rfl, .inr rfl, .inr rfl, .inr rfl, .inr rfl, .inr rfl, .inr rfl, .inr rfl, .inl rfl, trivial⟩ ⟨[0], rfl, by decide⟩
        · have hm := cnd_f hk hj38
          obtain ⟨hg41, hm⟩ := gd_some hm
          obtain ⟨hg42, hm⟩ := gd_some hm
          obtain ⟨v43, hv43, hm⟩ := lt_some hm
          refine dss_set (d := .v ((cL cS) v43)) (ρ' := [some (.adr a_c), some (.v ((cL (cL cS)) x_lines)), some (.v (cI r1.1)), some (.v ((cL cS) v43)), some (.v (cI r3.1)), some (.v (cI r9.1)), some (.v ((cL cS) v12)), some (.v (cS x14)), none]) (ω1 := [(a_c, .lst [(cL cI) r13.2.1, cI r13.2.2.1, cI r13.2.2.2.1, cI r13.2.2.2.2.1, cI r13.2.2.2.2.2])]) 3 (de_is (d := .v ((cL cS) ((cut x2 none (some r9.1) ++ ([x14] : List Wd)) ++ cut x2 (some (r9.1 + 1)) none))) (de_froz (dn_catT (c := cS) (xs := (cut x2 none (some r9.1) ++ ([x14] : List Wd))) (ys := cut x2 (some (r9.1 + 1)) none) (de_froz (dn_catT (c := cS) (xs := cut x2 none (some r9.1)) (ys := ([x14] : List Wd)) (de_froz (dn_sliceLt (c := cS) (xs := x2) (de_var (d := .v ((cL cS) x2)) 3) do_none (do_some (de_var (d := .v (cI r9.1)) 5)) lv)) (de_froz (dn_lst (ps := List.map cS ([x14] : List Wd)) (da_cons (de_var (d := .v (cS x14)) 7) da_nil))) lv lv hg41)) (de_froz (dn_sliceLt (c := cS) (xs := x2) (de_var (d := .v ((cL cS) x2)) 3) (do_some (de_add (de_var (d := .v (cI r9.1)) 5) de_int)) do_none lv)) lv lv hg42)) (by rw [hv43])) ?_
          have hq := some_i hm
          subst hq
          exact dss_end ⟨.inr rfl, .inr rfl, .inr rfl, .inr rfl, .inr rfl, .inr rfl, .inr rfl, .inr rfl, .inl rfl, trivial⟩ ⟨[0], rfl, by decide⟩
        have hq := some_i hm
        subst hq
        exact dss_end ⟨.inr rfl, .inr rfl, .inr rfl, .inr rfl, .inr rfl, .inr rfl, .inr rfl, .inr rfl, .inl rfl, trivial⟩ ⟨[0], rfl, by decide⟩
      obtain ⟨hg44, hm⟩ := gd_some hm
      obtain ⟨hg45, hm⟩ := gd_some hm
      have hq := some_i hm
      subst hq
      exact dss_ret (ω1 := [(a_c, .lst [(cL cI) r13.2.1, cI r13.2.2.1, cI r13.2.2.2.1, cI r13.2.2.2.2.1, cI r13.2.2.2.2.2])]) (de_froz (dn_catT (c := (cL cS)) (xs := (cut x_lines none (some r1.1) ++ ([j29] : List (List Wd)))) (ys := cut x_lines (some (r1.1 + 1)) none) (de_froz (dn_catT (c := (cL cS)) (xs := cut x_lines none (some r1.1)) (ys := ([j29] : List (List Wd))) (de_froz (dn_sliceLt (c := (cL cS)) (xs := x_lines) (de_var (d := .v ((cL (cL cS)) x_lines)) 1) do_none (do_some (de_var (d := .v (cI r1.1)) 2)) lv)) (de_froz (dn_lst (ps := List.map (cL cS) ([j29] : List (List Wd))) (da_cons (de_var (d := .v ((cL cS) j29)) 3) da_nil))) lv lv hg44)) (de_froz (dn_sliceLt (c := (cL cS)) (xs := x_lines) (de_var (d := .v ((cL (cL cS)) x_lines)) 1) (do_some (de_add (de_var (d := .v (cI r1.1)) 2) de_int)) do_none lv)) lv lv hg45)) (by first | exact ⟨rfl, rfl⟩ | exact ⟨⟨rfl, rfl⟩, fun z => z⟩ | exact ⟨⟨⟨rfl, rfl⟩, fun z => z⟩, fun z => z⟩ | exact ⟨⟨⟨⟨rfl, rfl⟩, fun z => z⟩, fun z => z⟩, fun z => z⟩)
end
end K44
end

section
set_option Elab.async false
set_option linter.all false
set_option maxRecDepth 100000
set_option maxHeartbeats 4000000
namespace K44
open PySem L2 Q TL
section
variable {P : Program} {w : World} {K : PySem.W.Frag} {mg : Str → Option Value} {base : Heap}
theorem ok_law_is_state (T : Txt P K mg) : FnOk P w K mg base CX0 1 T.f_law_is_state T.d_law_is_state ["value", "many"] (SpC (Mir (A := PyData × Int) (fun x => m_law_is_state x.1 x.2) (fun x => [.v x.1, .v (cI x.2)]) (fun x => []) (fun x t => .v (cB t)) (fun x t => []))) := by
  refine fn_d (k := 0) T.F_law_is_state sc_law_is_state (by rintro _ _ _ ⟨x, t, rfl, _⟩; rfl) (by decide) fun cdv A outer s H E ds ω Pr hr hR => ?_
  obtain ⟨x, t, rfl, rfl, hm, rfl⟩ := hR
  obtain ⟨x_value, x_many⟩ := x
  have nd := sc_law_is_state.nd
  have hu := hr.units
  change m_law_is_state x_value x_many = some t at hm
  unfold m_law_is_state at hm
  change DSs _ _ [some (.v x_value), some (.v (cI x_many))] [] _
  obtain ⟨b7, hb7, hm⟩ := bnd hm
  have hq := some_i hm
  subst hq
  exact dss_ret (ω1 := []) (de_is (de_and (de_isiInt T.z_isinstance T.z_int (de_var (d := .v x_value) 0)) (fun hk8 => by
        have hm := cnd_t hk8 hb7
        obtain ⟨b5, hb5, hm⟩ := bnd hm
        have hq := some_i hm
        subst hq
        exact (de_is (de_and (de_not (de_isiBool T.z_isinstance T.z_bool (de_var (d := .v x_value) 0))) (fun hk6 => by
        have hm := cnd_t hk6 hb5
        obtain ⟨x1, hx1, hm⟩ := bnd hm
        obtain ⟨b3, hb3, hm⟩ := bnd hm
        have hq := some_i hm
        subst hq
        exact (de_is (de_and (de_c (de_asI (de_var (d := .v x_value) 0) hx1) de_int c_ge) (fun hk4 => by
        have hm := cnd_t hk4 hb3
        obtain ⟨x2, hx2, hm⟩ := bnd hm
        have hq := some_i hm
        subst hq
        exact (de_and1 (de_c (de_asI (de_var (d := .v x_value) 0) hx2) (de_var (d := .v (cI x_many)) 1) c_lt)))) (congrArg (fun b => D.v (cB b)) (and_val hb3))))) (congrArg (fun b => D.v (cB b)) (and_val hb5))))) (congrArg (fun b => D.v (cB b)) (and_val hb7))) (by first | exact ⟨rfl, rfl⟩ | exact ⟨⟨rfl, rfl⟩, fun z => z⟩ | exact ⟨⟨⟨rfl, rfl⟩, fun z => z⟩, fun z => z⟩ | exact ⟨⟨⟨⟨rfl, rfl⟩, fun z => z⟩, fun z => z⟩, fun z => z⟩)
end
end K44
end

section
set_option Elab.async false
set_option linter.all false
set_option maxRecDepth 100000
set_option maxHeartbeats 4000000
namespace K44
open PySem L2 Q TL
section
variable {P : Program} {w : World} {K : PySem.W.Frag} {mg : Str → Option Value} {base : Heap}
theorem ok_law_is_row (T : Txt P K mg) : FnOk P w K mg base CX0 2 T.f_law_is_row T.d_law_is_row ["row", "many", "size"] (SpC (Mir (A := PyData × Int × Int) (fun x => m_law_is_row x.1 x.2.1 x.2.2) (fun x => [.v x.1, .v (cI x.2.1), .v (cI x.2.2)]) (fun x => []) (fun x t => .v (cB t)) (fun x t => []))) := by
  refine fn_d (k := 1) T.F_law_is_row sc_law_is_row (by rintro _ _ _ ⟨x, t, rfl, _⟩; rfl) (by decide) fun cdv A outer s H E ds ω Pr hr hR => ?_
  obtain ⟨x, t, rfl, rfl, hm, rfl⟩ := hR
  obtain ⟨x_row, x_many, x_size⟩ := x
  have nd := sc_law_is_row.nd
  have hu := hr.units
  change m_law_is_row x_row x_many x_size = some t at hm
  unfold m_law_is_row at hm
  change DSs _ _ [some (.v x_row), some (.v (cI x_many)), some (.v (cI x_size)), none, none, none] [] _
  obtain ⟨b7, hb7, hm⟩ := bnd hm
  refine dss_if1 (ω1 := []) (dt_bool (dw_is (dw_or (dt_not (dt_val (de_isiTuple T.z_isinstance T.z_tuple (de_var (d := .v x_row) 0)))) (fun hk8 => by
        have hm := cnd_f hk8 hb7
        obtain ⟨x1, hx1, hm⟩ := bnd hm
        obtain ⟨b5, hb5, hm⟩ := bnd hm
        have hq := some_i hm
        subst hq
        exact (dw_is (dw_or (dt_c (de_lenTt (c := cP) (xs := x1) T.z_len (de_asT (de_var (d := .v x_row) 0) hx1)) (de_var (d := .v (cI x_size)) 2) c_neI) (fun hk6 => by
        have hm := cnd_f hk6 hb5
        obtain ⟨x2, hx2, hm⟩ := bnd hm
        obtain ⟨x3, hx3, hm⟩ := bnd hm
        obtain ⟨r4, hr4, hm⟩ := bnd hm
        have hq := some_i hm
        subst hq
        exact (dw_or1 (dt_not (dt_val (de_call (d := .v (cB r4)) (ωp := []) (ωp' := []) (ωr := []) (ω2 := []) (ok_law_is_state T) (hr.mono (by decide)) T.m_law_is_state T.F_law_is_state.kp T.b_law_is_state (da_cons (de_ixTt (c := cP) (de_asT (de_var (d := .v x_row) 0) hx2) de_int hx3) (da_cons (de_var (d := .v (cI x_many)) 1) da_nil)) ⟨(x3, x_many), r4, rfl, rfl, hr4, rfl⟩ (fun _ _ h => h) [] []))))) (fun _ => rfl)) (or_val hb5))) (fun _ => rfl)) (or_val hb7))) (fun hk => ?_) (fun hk => ?_)
  · have hm := cnd_t hk hm
    have hq := some_i hm
    subst hq
    exact dss_ret (ω1 := []) de_bl (by first | exact ⟨rfl, rfl⟩ | exact ⟨⟨rfl, rfl⟩, fun z => z⟩ | exact ⟨⟨⟨rfl, rfl⟩, fun z => z⟩, fun z => z⟩ | exact ⟨⟨⟨⟨rfl, rfl⟩, fun z => z⟩, fun z => z⟩, fun z => z⟩)
  · have hm := cnd_f hk hm
    obtain ⟨y15, hy15, hm⟩ := bnd hm
    refine dss_set (d := .v ((cL cP) y15)) (ρ' := [some (.v x_row), some (.v (cI x_many)), some (.v (cI x_size)), some (.v ((cL cP) y15)), none, none]) (ω1 := []) 3 (de_if (d := .v ((cL cP) y15)) (ω2 := []) (dt_c (de_var (d := .v (cI x_size)) 2) de_int c_eqI) (fun hk => by
        have hm := cnd_t hk hy15
        obtain ⟨x9, hx9, hm⟩ := bnd hm
        obtain ⟨x10, hx10, hm⟩ := bnd hm
        have hq := some_i hm
        subst hq
        exact (de_froz (dn_lst (ps := List.map cP ([x10] : List PyData)) (da_cons (de_ixTt (c := cP) (de_asT (de_var (d := .v x_row) 0) hx9) de_int hx10) da_nil)))) (fun hk => by
        have hm := cnd_f hk hy15
        obtain ⟨x11, hx11, hm⟩ := bnd hm
        obtain ⟨x12, hx12, hm⟩ := bnd hm
        obtain ⟨x13, hx13, hm⟩ := bnd hm
        obtain ⟨x14, hx14, hm⟩ := bnd hm
        have hq := some_i hm
        subst hq
        exact (de_froz (dn_lst (ps := List.map cP ([x12, x14] : List PyData)) (da_cons (de_ixTt (c := cP) (de_asT (de_var (d := .v x_row) 0) hx11) de_int hx12) (da_cons (de_ixTt (c := cP) (de_asT (de_var (d := .v x_row) 0) hx13) de_int hx14) da_nil)))))) ?_
    obtain ⟨r24, hr24, hm⟩ := bnd hm
    refine dss_for (.nm 4) _ (fun x => .v (cP x)) (fun (s16 : Unit) => [some (.v x_row), some (.v (cI x_many)), some (.v (cI x_size)), some (.v ((cL cP) y15)), none, none]) (fun (s16 : Unit) => []) (fun (q25 : Bool) o => o = .rt (.v (cB q25)) []) _ _ hr24 (di_listT (c := cP) (de_var (d := .v ((cL cP) y15)) 3)) (pg_name (i := 4) nd rfl (by first | exact Or.inl rfl | exact Or.inr rfl)) ⟨.inr rfl, .inr rfl, .inr rfl, .inr rfl, .inl rfl, .inl rfl, trivial⟩ ⟨[], rfl, by decide⟩ (fun _ => rfl) ?_ ?_ ?_ ?_ PassesOwn.never
    · intro e18 s16 k hx hm
      change DSs _ _ [some (.v x_row), some (.v (cI x_many)), some (.v (cI x_size)), some (.v ((cL cP) y15)), some (.v e18), none] [] _
      obtain ⟨b22, hb22, hm⟩ := bnd hm
      refine dss_if1 (ω1 := []) (dt_bool (dw_is (dw_or (dt_not (dt_val (de_isiStr T.z_isinstance T.z_str (de_var (d := .v e18) 4)))) (fun hk23 => by
        have hm := cnd_f hk23 hb22
        obtain ⟨x19, hx19, hm⟩ := bnd hm
        have hq := some_i hm
        subst hq
        exact (dw_or1 (dt_not (dt_val (de_all (bs := List.map (fun (e20 : Nat) => (decide (e20 ∈ ([97, 98, 99, 100, 101, 102, 103, 104, 105, 106, 107, 108, 109, 110, 111, 112, 113, 114, 115, 116, 117, 118, 119, 120, 121, 122] : Wd)))) x19) rfl T.z_all (de_froz (dn_of (comp_d (cy := cB) [("sign", 5)] (.nm 5) _ (fun z => .v (cS [z])) (fun s21 => []) _ _ _ (compO_map (fun (e20 : Nat) => (decide (e20 ∈ ([97, 98, 99, 100, 101, 102, 103, 104, 105, 106, 107, 108, 109, 110, 111, 112, 113, 114, 115, 116, 117, 118, 119, 120, 121, 122] : Wd)))) x19) (di_str (de_asS (de_var (d := .v e18) 4) hx19)) (Pk.refl _) (blkOk_by (N := ["row", "many", "size", "words", "word", "sign"]) (sc := defScope s_law_is_row) (own := [("sign", 5)]) (by decide +kernel)) (fun _ _ _ _ _ => pg_name (i := 5) nd rfl (by first | exact Or.inl rfl | exact Or.inr rfl)) (by intro i hi; revert i hi; decide) (fun _ => rfl) (fun _ _ _ _ hb _ _ _ _ _ => by cases (some_i hb); exact dts_nil) (fun e20 s21 _ hx _ hb _ _ _ _ _ => by
          have hm := hb
          have hq := some_i hm
          subst hq
          exact (de_c (de_var (d := .v (cS [e20])) 5) (de_str ([97, 98, 99, 100, 101, 102, 103, 104, 105, 106, 107, 108, 109, 110, 111, 112, 113, 114, 115, 116, 117, 118, 119, 120, 121, 122] : Wd)) c_inS)))))))))) (fun _ => rfl)) (or_val hb22))) (fun hk => ?_) (fun hk => ?_)
      · have hm := cnd_t hk hm
        have hq := some_i hm
        subst hq
        exact dss_ret (ω1 := []) de_bl (by first | exact ⟨rfl, .inl ⟨_, _, rfl⟩⟩ | exact ⟨⟨rfl, .inl ⟨_, _, rfl⟩⟩, fun z => z⟩ | exact ⟨⟨⟨rfl, .inl ⟨_, _, rfl⟩⟩, fun z => z⟩, fun z => z⟩ | exact ⟨⟨⟨⟨rfl, .inl ⟨_, _, rfl⟩⟩, fun z => z⟩, fun z => z⟩, fun z => z⟩)
      · have hm := cnd_f hk hm
        have hq := some_i hm
        subst hq
        exact dss_nil ⟨_, _, .inl rfl, ⟨.inr rfl, .inr rfl, .inr rfl, .inr rfl, .inl rfl, .inl rfl, trivial⟩, ⟨[], rfl, by decide⟩⟩
    · intro s17 hrs17
      subst hrs17
      obtain ⟨b34, hb34, hm⟩ := bnd hm
      have hq := some_i hm
      subst hq
      exact dss_ret (ω1 := []) (de_is (de_or (de_c (de_var (d := .v (cI x_size)) 2) de_int c_eqI) (fun hk35 => by
        have hm := cnd_f hk35 hb34
        obtain ⟨x26, hx26, hm⟩ := bnd hm
        obtain ⟨x27, hx27, hm⟩ := bnd hm
        obtain ⟨x28, hx28, hm⟩ := bnd hm
        obtain ⟨b32, hb32, hm⟩ := bnd hm
        have hq := some_i hm
        subst hq
        exact (de_and1 (de_is (de_and (de_c (de_lenS T.z_len (de_asS (de_ixTt (c := cP) (de_asT (de_var (d := .v x_row) 0) hx26) de_int hx27) hx28)) de_int c_eqI) (fun hk33 => by
        have hm := cnd_t hk33 hb32
        obtain ⟨x29, hx29, hm⟩ := bnd hm
        obtain ⟨x30, hx30, hm⟩ := bnd hm
        obtain ⟨r31, hr31, hm⟩ := bnd hm
        have hq := some_i hm
        subst hq
        exact (de_and1 (de_call (d := .v (cB r31)) (ωp := []) (ωp' := []) (ωr := []) (ω2 := []) (ok_law_is_state T) (hr.mono (by decide)) T.m_law_is_state T.F_law_is_state.kp T.b_law_is_state (da_cons (de_ixTt (c := cP) (de_asT (de_var (d := .v x_row) 0) hx29) de_int hx30) (da_cons (de_var (d := .v (cI x_many)) 1) da_nil)) ⟨(x30, x_many), r31, rfl, rfl, hr31, rfl⟩ (fun _ _ h => h) [] [])))) (congrArg (fun b => D.v (cB b)) (and_val hb32)))))) (congrArg (fun b => D.v (cB b)) (or_val hb34))) (by first | exact ⟨rfl, rfl⟩ | exact ⟨⟨rfl, rfl⟩, fun z => z⟩ | exact ⟨⟨⟨rfl, rfl⟩, fun z => z⟩, fun z => z⟩ | exact ⟨⟨⟨⟨rfl, rfl⟩, fun z => z⟩, fun z => z⟩, fun z => z⟩)
    · intro q36 hrq36 o po
      subst hrq36
      have hq := some_i hm
      subst hq
      subst po
      exact ⟨rfl, rfl⟩
    · intro z hz
      subst hz
      cases hm
end
end K44
end

section
set_option Elab.async false
set_option linter.all false
set_option maxRecDepth 100000
set_option maxHeartbeats 4000000
namespace K44
open PySem L2 Q TL
section
variable {P : Program} {w : World} {K : PySem.W.Frag} {mg : Str → Option Value} {base : Heap}
theorem ok_law_is_machine (T : Txt P K mg) : FnOk P w K mg base CX0 3 T.f_law_is_machine T.d_law_is_machine ["value"] (SpC (Mir (A := PyData) (fun x => m_law_is_machine x) (fun x => [.v x]) (fun x => []) (fun x t => .v (cB t)) (fun x t => []))) := by
  refine fn_d (k := 2) T.F_law_is_machine sc_law_is_machine (by rintro _ _ _ ⟨x, t, rfl, _⟩; rfl) (by decide) fun cdv A outer s H E ds ω Pr hr hR => ?_
  obtain ⟨x_value, t, rfl, rfl, hm, rfl⟩ := hR
  skip
  have nd := sc_law_is_machine.nd
  have hu := hr.units
  change m_law_is_machine x_value = some t at hm
  unfold m_law_is_machine at hm
  change DSs _ _ [some (.v x_value), none, none] [] _
  obtain ⟨b7, hb7, hm⟩ := bnd hm
  refine dss_if1 (ω1 := []) (dt_bool (dw_is (dw_or (dt_not (dt_val (de_isiTuple T.z_isinstance T.z_tuple (de_var (d := .v x_value) 0)))) (fun hk8 => by
        have hm := cnd_f hk8 hb7
        obtain ⟨x1, hx1, hm⟩ := bnd hm
        obtain ⟨b5, hb5, hm⟩ := bnd hm
        have hq := some_i hm
        subst hq
        exact (dw_is (dw_or (dt_c (de_lenTt (c := cP) (xs := x1) T.z_len (de_asT (de_var (d := .v x_value) 0) hx1)) de_int c_neI) (fun hk6 => by
        have hm := cnd_f hk6 hb5
        obtain ⟨x2, hx2, hm⟩ := bnd hm
        obtain ⟨x3, hx3, hm⟩ := bnd hm
        obtain ⟨r4, hr4, hm⟩ := bnd hm
        have hq := some_i hm
        subst hq
        exact (dw_or1 (dt_not (dt_val (de_call (d := .v (cB r4)) (ωp := []) (ωp' := []) (ωr := []) (ω2 := []) (ok_law_is_state T) (hr.mono (by decide)) T.m_law_is_state T.F_law_is_state.kp T.b_law_is_state (da_cons (de_ixTt (c := cP) (de_asT (de_var (d := .v x_value) 0) hx2) de_int hx3) (da_cons (de_pow de_int de_int (by decide)) da_nil)) ⟨(x3, (10 ^ 9)), r4, rfl, rfl, hr4, rfl⟩ (fun _ _ h => h) [] []))))) (fun _ => rfl)) (or_val hb5))) (fun _ => rfl)) (or_val hb7))) (fun hk => ?_) (fun hk => ?_)
  · have hm := cnd_t hk hm
    have hq := some_i hm
    subst hq
    exact dss_ret (ω1 := []) de_bl (by first | exact ⟨rfl, rfl⟩ | exact ⟨⟨rfl, rfl⟩, fun z => z⟩ | exact ⟨⟨⟨rfl, rfl⟩, fun z => z⟩, fun z => z⟩ | exact ⟨⟨⟨⟨rfl, rfl⟩, fun z => z⟩, fun z => z⟩, fun z => z⟩)
  · have hm := cnd_f hk hm
    obtain ⟨hg9, hm⟩ := gd_some hm
    obtain ⟨r33, hr33, hm⟩ := bnd hm
    refine dss_for (.nm 1) _ (fun x => .v (cI x)) (fun (s10 : Unit) => [some (.v x_value), none, none]) (fun (s10 : Unit) => []) (fun (q34 : Bool) o => o = .rt (.v (cB q34)) []) _ _ hr33 (di_range2 T.z_range de_int de_int hg9) (pg_name (i := 1) nd rfl (by first | exact Or.inl rfl | exact Or.inr rfl)) ⟨.inr rfl, .inl rfl, .inl rfl, trivial⟩ ⟨[], rfl, by decide⟩ (fun _ => rfl) ?_ ?_ ?_ ?_ PassesOwn.never
    · intro e12 s10 k hx hm
      change DSs _ _ [some (.v x_value), some (.v (cI e12)), none] [] _
      obtain ⟨x13, hx13, hm⟩ := bnd hm
      obtain ⟨x14, hx14, hm⟩ := bnd hm
      refine dss_if1 (ω1 := []) (dt_not (dt_val (de_isiTuple T.z_isinstance T.z_tuple (de_ixTt (c := cP) (de_asT (de_var (d := .v x_value) 0) hx13) (de_var (d := .v (cI e12)) 1) hx14)))) (fun hk => ?_) (fun hk => ?_)
      · have hm := cnd_t hk hm
        have hq := some_i hm
        subst hq
        exact dss_ret (ω1 := []) de_bl (by first | exact ⟨rfl, .inl ⟨_, _, rfl⟩⟩ | exact ⟨⟨rfl, .inl ⟨_, _, rfl⟩⟩, fun z => z⟩ | exact ⟨⟨⟨rfl, .inl ⟨_, _, rfl⟩⟩, fun z => z⟩, fun z => z⟩ | exact ⟨⟨⟨⟨rfl, .inl ⟨_, _, rfl⟩⟩, fun z => z⟩, fun z => z⟩, fun z => z⟩)
      · have hm := cnd_f hk hm
        obtain ⟨x15, hx15, hm⟩ := bnd hm
        obtain ⟨x16, hx16, hm⟩ := bnd hm
        obtain ⟨x17, hx17, hm⟩ := bnd hm
        obtain ⟨l25, hl25, hm⟩ := bnd hm
        refine dss_if1 (ω1 := []) (dt_not (dt_val (de_all (bs := l25.1) rfl T.z_all (de_froz (dn_of (comp_d (cy := cB) [("row", 2)] (.nm 2) _ (fun x => .v (cP x)) (fun s24 => []) _ _ _ hl25 (di_tupT (c := cP) (de_asT (de_ixTt (c := cP) (de_asT (de_var (d := .v x_value) 0) hx15) (de_var (d := .v (cI e12)) 1) hx16) hx17)) (Pk.refl _) (blkOk_by (N := ["value", "k", "row"]) (sc := defScope s_law_is_machine) (own := [("row", 2)]) (by decide +kernel)) (fun _ _ _ _ _ => pg_name (i := 2) nd rfl (by first | exact Or.inl rfl | exact Or.inr rfl)) (by intro i hi; revert i hi; decide) (fun _ => rfl) (fun _ _ _ _ hb _ _ _ _ _ => by cases (some_i hb); exact dts_nil) (fun e18 s24 _ hx _ hb _ _ _ _ _ => by
          have hm := hb
          obtain ⟨x19, hx19, hm⟩ := bnd hm
          obtain ⟨x20, hx20, hm⟩ := bnd hm
          obtain ⟨x21, hx21, hm⟩ := bnd hm
          obtain ⟨y22, hy22, hm⟩ := bnd hm
          obtain ⟨r23, hr23, hm⟩ := bnd hm
          have hq := some_i hm
          subst hq
          exact (de_call (d := .v (cB r23)) (ωp := []) (ωp' := []) (ωr := []) (ω2 := []) (ok_law_is_row T) (hr.mono (by decide)) T.m_law_is_row T.F_law_is_row.kp T.b_law_is_row (da_cons (de_var (d := .v e18) 2) (da_cons (de_asI (de_ixTt (c := cP) (de_asT (de_var (d := .v x_value) 0) hx19) de_int hx20) hx21) (da_cons (de_if (d := .v (cI y22)) (ω2 := []) (dt_c (de_var (d := .v (cI e12)) 1) de_int c_eqI) (fun hk => by
        have hm := cnd_t hk hy22
  
        have hq := some_i hm
        subst hq
        exact de_int) (fun hk => by
        have hm := cnd_f hk hy22
  
        have hq := some_i hm
        subst hq
        exact de_int)) da_nil))) ⟨(e18, x21, y22), r23, rfl, rfl, hr23, rfl⟩ (fun _ _ h => h) [] [])))))))) (fun hk => ?_) (fun hk => ?_)
        · have hm := cnd_t hk hm
          have hq := some_i hm
          subst hq
          exact dss_ret (ω1 := []) de_bl (by first | exact ⟨rfl, .inl ⟨_, _, rfl⟩⟩ | exact ⟨⟨rfl, .inl ⟨_, _, rfl⟩⟩, fun z => z⟩ | exact ⟨⟨⟨rfl, .inl ⟨_, _, rfl⟩⟩, fun z => z⟩, fun z => z⟩ | exact ⟨⟨⟨⟨rfl, .inl ⟨_, _, rfl⟩⟩, fun z => z⟩, fun z => z⟩, fun z => z⟩)
        · have hm := cnd_f hk hm
          obtain ⟨x26, hx26, hm⟩ := bnd hm
          obtain ⟨x27, hx27, hm⟩ := bnd hm
          obtain ⟨x28, hx28, hm⟩ := bnd hm
          obtain ⟨x29, hx29, hm⟩ := bnd hm
          obtain ⟨r30, hr30, hm⟩ := bnd hm
          obtain ⟨hg31, hm⟩ := gd_some hm
          obtain ⟨hg32, hm⟩ := gd_some hm
          refine dss_if1 (ω1 := []) (dt_c (de_ixTt (c := cP) (de_asT (de_var (d := .v x_value) 0) hx26) (de_var (d := .v (cI e12)) 1) hx27) (de_call (d := .v ((cT cP) r30)) (ωp := []) (ωp' := []) (ωr := []) (ω2 := []) (ok_law_once_P T) (hr.mono (by decide)) T.m_law_once T.F_law_once.kp T.b_law_once (da_cons (de_ixTt (c := cP) (de_asT (de_var (d := .v x_value) 0) hx28) (de_var (d := .v (cI e12)) 1) hx29) da_nil) ⟨x29, r30, rfl, rfl, hr30, rfl⟩ (fun _ _ h => h) [] []) (c_neP hu hg31 hg32)) (fun hk => ?_) (fun hk => ?_)
          · have hm := cnd_t hk hm
            have hq := some_i hm
            subst hq
            exact dss_ret (ω1 := []) de_bl (by first | exact ⟨rfl, .inl ⟨_, _, rfl⟩⟩ | exact ⟨⟨rfl, .inl ⟨_, _, rfl⟩⟩, fun z => z⟩ | exact ⟨⟨⟨rfl, .inl ⟨_, _, rfl⟩⟩, fun z => z⟩, fun z => z⟩ | exact ⟨⟨⟨⟨rfl, .inl ⟨_, _, rfl⟩⟩, fun z => z⟩, fun z => z⟩, fun z => z⟩)
          · have hm := cnd_f hk hm
            have hq := some_i hm
            subst hq
            exact dss_nil ⟨_, _, .inl rfl, ⟨.inr rfl, .inl rfl, .inl rfl, trivial⟩, ⟨[], rfl, by decide⟩⟩
    · intro s11 hrs11
      subst hrs11
      have hq := some_i hm
      subst hq
      exact dss_ret (ω1 := []) de_bl (by first | exact ⟨rfl, rfl⟩ | exact ⟨⟨rfl, rfl⟩, fun z => z⟩ | exact ⟨⟨⟨rfl, rfl⟩, fun z => z⟩, fun z => z⟩ | exact ⟨⟨⟨⟨rfl, rfl⟩, fun z => z⟩, fun z => z⟩, fun z => z⟩)
    · intro q35 hrq35 o po
      subst hrq35
      have hq := some_i hm
      subst hq
      subst po
      exact ⟨rfl, rfl⟩
    · intro z hz
      subst hz
      cases hm
end
end K44
end

section
set_option Elab.async false
set_option linter.all false
set_option maxRecDepth 100000
set_option maxHeartbeats 4000000
namespace K44
open PySem L2 Q TL
section
variable {P : Program} {w : World} {K : PySem.W.Frag} {mg : Str → Option Value} {base : Heap}
theorem ok_law_bent (T : Txt P K mg) : FnOk P w K mg base CX0 3 T.f_law_bent T.d_law_bent ["c", "machine"] (SpC (Mir (A := Addr × CS × Mach) (fun x => m_law_bent x.2.1 x.2.2) (fun x => [.adr x.1, .v (cMach x.2.2)]) (fun x => [(x.1, .lst [(cL cI) x.2.1.1, cI x.2.1.2.1, cI x.2.1.2.2.1, cI x.2.1.2.2.2.1, cI x.2.1.2.2.2.2])]) (fun x t => .v (cP t.1)) (fun x t => [(x.1, .lst [(cL cI) t.2.1, cI t.2.2.1, cI t.2.2.2.1, cI t.2.2.2.2.1, cI t.2.2.2.2.2])]))) := by
  refine fn_d (k := 2) T.F_law_bent sc_law_bent (by rintro _ _ _ ⟨x, t, rfl, _⟩; rfl) (by decide) fun cdv A outer s H E ds ω Pr hr hR => ?_
  obtain ⟨x, t, rfl, rfl, hm, rfl⟩ := hR
  obtain ⟨a_c, x_c, x_machine⟩ := x
  have nd := sc_law_bent.nd
  have hu := hr.units
  change m_law_bent x_c x_machine = some t at hm
  unfold m_law_bent at hm
  change DSs _ _ [some (.adr a_c), some (.v (cMach x_machine)), none, none, none, none, none, none] [(a_c, .lst [(cL cI) x_c.1, cI x_c.2.1, cI x_c.2.2.1, cI x_c.2.2.2.1, cI x_c.2.2.2.2])] _
  obtain ⟨v2, hv2, hm⟩ := lt_some hm
  refine dss_setN (cc := .lst (List.map cP v2)) (ω1 := [(a_c, .lst [(cL cI) x_c.1, cI x_c.2.1, cI x_c.2.2.1, cI x_c.2.2.2.1, cI x_c.2.2.2.2])]) 2 (dn_is (c := .lst (List.map cP [cI x_machine.1, (cT cPW) x_machine.2.1, (cT cEW) x_machine.2.2.1, (cT cPW) x_machine.2.2.2])) (dn_is (dn_listT (ps := [cI x_machine.1, (cT cPW) x_machine.2.1, (cT cEW) x_machine.2.2.1, (cT cPW) x_machine.2.2.2]) T.z_list (de_var (d := .v (cMach x_machine)) 1)) rfl) (by rw [hv2])) (fun a1 => ?_)
  change DSs _ _ [some (.adr a_c), some (.v (cMach x_machine)), some (.adr a1), none, none, none, none, none] [(a_c, .lst [(cL cI) x_c.1, cI x_c.2.1, cI x_c.2.2.1, cI x_c.2.2.2.1, cI x_c.2.2.2.2]), (a1, .lst (List.map cP v2))] _
  obtain ⟨r3, hr3, hm⟩ := bnd hm
  obtain ⟨v4, hv4, hm⟩ := lt_some hm
  refine dss_set (d := .v (cI v4)) (ρ' := [some (.adr a_c), some (.v (cMach x_machine)), some (.adr a1), some (.v (cI v4)), none, none, none, none]) (ω1 := [(a_c, .lst [(cL cI) r3.2.1, cI r3.2.2.1, cI r3.2.2.2.1, cI r3.2.2.2.2.1, cI r3.2.2.2.2.2]), (a1, .lst (List.map cP v2))]) 3 (de_is (d := .v (cI (1 + r3.1))) (de_add de_int (de_call (d := .v (cI r3.1)) (ωp := [(a_c, .lst [(cL cI) x_c.1, cI x_c.2.1, cI x_c.2.2.1, cI x_c.2.2.2.1, cI x_c.2.2.2.2])]) (ωp' := [(a_c, .lst [(cL cI) r3.2.1, cI r3.2.2.1, cI r3.2.2.2.1, cI r3.2.2.2.2.1, cI r3.2.2.2.2.2])]) (ωr := [(a1, .lst (List.map cP v2))]) (ω2 := [(a_c, .lst [(cL cI) r3.2.1, cI r3.2.2.1, cI r3.2.2.2.1, cI r3.2.2.2.2.1, cI r3.2.2.2.2.2]), (a1, .lst (List.map cP v2))]) (ok_law_take T) (hr.mono (by decide)) T.m_law_take T.F_law_take.kp T.b_law_take (da_cons (de_var (d := .adr a_c) 0) (da_cons de_int da_nil)) ⟨(a_c, x_c, 3), r3, rfl, rfl, hr3, rfl⟩ (fun _ _ h => h) [0, 1] [0, 1])) (by rw [hv4])) ?_
  obtain ⟨x5, hx5, hm⟩ := bnd hm
  obtain ⟨x6, hx6, hm⟩ := bnd hm
  refine dss_setN (cc := .lst (List.map cP x6)) (ω1 := [(a_c, .lst [(cL cI) r3.2.1, cI r3.2.2.1, cI r3.2.2.2.1, cI r3.2.2.2.2.1, cI r3.2.2.2.2.2]), (a1, .lst (List.map cP v2))]) 4 (dn_listT (ps := List.map cP x6) T.z_list (de_asT (de_ixLt (c := cP) (de_var (d := .adr a1) 2) (de_var (d := .v (cI v4)) 3) (lc 1) hx5) hx6)) (fun a7 => ?_)
  change DSs _ _ [some (.adr a_c), some (.v (cMach x_machine)), some (.adr a1), some (.v (cI v4)), some (.adr a7), none, none, none] [(a_c, .lst [(cL cI) r3.2.1, cI r3.2.2.1, cI r3.2.2.2.1, cI r3.2.2.2.2.1, cI r3.2.2.2.2.2]), (a1, .lst (List.map cP v2)), (a7, .lst (List.map cP x6))] _
  obtain ⟨r8, hr8, hm⟩ := bnd hm
  refine dss_set (d := .v (cI r8.1)) (ρ' := [some (.adr a_c), some (.v (cMach x_machine)), some (.adr a1), some (.v (cI v4)), some (.adr a7), some (.v (cI r8.1)), none, none]) (ω1 := [(a_c, .lst [(cL cI) r8.2.1, cI r8.2.2.1, cI r8.2.2.2.1, cI r8.2.2.2.2.1, cI r8.2.2.2.2.2]), (a1, .lst (List.map cP v2)), (a7, .lst (List.map cP x6))]) 5 (de_call (d := .v (cI r8.1)) (ωp := [(a_c, .lst [(cL cI) r3.2.1, cI r3.2.2.1, cI r3.2.2.2.1, cI r3.2.2.2.2.1, cI r3.2.2.2.2.2])]) (ωp' := [(a_c, .lst [(cL cI) r8.2.1, cI r8.2.2.1, cI r8.2.2.2.1, cI r8.2.2.2.2.1, cI r8.2.2.2.2.2])]) (ωr := [(a1, .lst (List.map cP v2)), (a7, .lst (List.map cP x6))]) (ω2 := [(a_c, .lst [(cL cI) r8.2.1, cI r8.2.2.1, cI r8.2.2.2.1, cI r8.2.2.2.2.1, cI r8.2.2.2.2.2]), (a1, .lst (List.map cP v2)), (a7, .lst (List.map cP x6))]) (ok_law_take T) (hr.mono (by decide)) T.m_law_take T.F_law_take.kp T.b_law_take (da_cons (de_var (d := .adr a_c) 0) (da_cons de_int da_nil)) ⟨(a_c, r3.2, 7), r8, rfl, rfl, hr8, rfl⟩ (fun _ _ h => h) [0, 1, 2] [0, 1, 2]) ?_
  refine dss_if1 (ω1 := [(a_c, .lst [(cL cI) r8.2.1, cI r8.2.2.1, cI r8.2.2.2.1, cI r8.2.2.2.2.1, cI r8.2.2.2.2.2]), (a1, .lst (List.map cP v2)), (a7, .lst (List.map cP x6))]) (dt_c (de_var (d := .v (cI r8.1)) 5) de_int c_eqI) (fun hk => ?_) (fun hk => ?_)
  · have hm := cnd_t hk hm
    obtain ⟨r9, hr9, hm⟩ := bnd hm
    obtain ⟨x10, hx10, hm⟩ := bnd hm
    have hq := some_i hm
    subst hq
    exact dss_ret (ω1 := [(a_c, .lst [(cL cI) r9.2.1, cI r9.2.2.1, cI r9.2.2.2.1, cI r9.2.2.2.2.1, cI r9.2.2.2.2.2])]) (de_drop (de_ixLt (c := cP) (de_froz (dn_lst (ps := List.map cP ([((fun _ => PyData.none) ()), (cB true), ((fun _ => PyData.tuple []) ()), ((c3 cI (cT cPW) (cT cEW)) (x_machine.1, x_machine.2.1, x_machine.2.2.1)), ((c5 cI (cT cPW) (cT cEW) (cT cPW) (fun _ => PyData.tuple [])) (x_machine.1, x_machine.2.1, x_machine.2.2.1, x_machine.2.2.2, ())), (cS ([109, 97, 99, 104, 105, 110, 101] : Wd)), ((c4 cI (fun _ => PyData.tuple []) (fun _ => PyData.tuple []) (fun _ => PyData.tuple [])) ((0 - 1), (), (), ()))] : List PyData)) (da_cons de_non (da_cons de_bl (da_cons (de_tup (ps := []) da_nil) (da_cons (de_is (de_sliceTf (de_var (d := .v (cMach x_machine)) 1) do_none (do_some de_int)) rfl) (da_cons (de_catTup (de_var (d := .v (cMach x_machine)) 1) (de_tup (ps := [(fun _ => PyData.tuple []) ()]) (da_cons (de_tup (ps := []) da_nil) da_nil)) (Nat.le_of_ble_eq_true rfl)) (da_cons (de_str ([109, 97, 99, 104, 105, 110, 101] : Wd)) (da_cons (de_tup (ps := [cI (0 - 1), (fun _ => PyData.tuple []) (), (fun _ => PyData.tuple []) (), (fun _ => PyData.tuple []) ()]) (da_cons (de_sub de_int de_int) (da_cons (de_tup (ps := []) da_nil) (da_cons (de_tup (ps := []) da_nil) (da_cons (de_tup (ps := []) da_nil) da_nil))))) da_nil))))))))) (de_call (d := .v (cI r9.1)) (ωp := [(a_c, .lst [(cL cI) r8.2.1, cI r8.2.2.1, cI r8.2.2.2.1, cI r8.2.2.2.2.1, cI r8.2.2.2.2.2])]) (ωp' := [(a_c, .lst [(cL cI) r9.2.1, cI r9.2.2.1, cI r9.2.2.2.1, cI r9.2.2.2.2.1, cI r9.2.2.2.2.2])]) (ωr := [(a1, .lst (List.map cP v2)), (a7, .lst (List.map cP x6))]) (ω2 := [(a_c, .lst [(cL cI) r9.2.1, cI r9.2.2.1, cI r9.2.2.2.1, cI r9.2.2.2.2.1, cI r9.2.2.2.2.2]), (a1, .lst (List.map cP v2)), (a7, .lst (List.map cP x6))]) (ok_law_take T) (hr.mono (by decide)) T.m_law_take T.F_law_take.kp T.b_law_take (da_cons (de_var (d := .adr a_c) 0) (da_cons de_int da_nil)) ⟨(a_c, r8.2, 7), r9, rfl, rfl, hr9, rfl⟩ (fun _ _ h => h) [0, 1, 2] [0, 1, 2]) lv hx10) ⟨[0], rfl, by decide⟩) (by first | exact ⟨rfl, rfl⟩ | exact ⟨⟨rfl, rfl⟩, fun z => z⟩ | exact ⟨⟨⟨rfl, rfl⟩, fun z => z⟩, fun z => z⟩ | exact ⟨⟨⟨⟨rfl, rfl⟩, fun z => z⟩, fun z => z⟩, fun z => z⟩)
  · have hm := cnd_f hk hm
    obtain ⟨j392, hj392, hm⟩ := bnd hm
    refine dss_join (ω1 := [(a_c, .lst [(cL cI) r8.2.1, cI r8.2.2.1, cI r8.2.2.2.1, cI r8.2.2.2.2.1, cI r8.2.2.2.2.2]), (a1, .lst (List.map cP v2)), (a7, .lst (List.map cP x6))]) [some (.adr a_c), some (.v (cMach x_machine)), some (.adr a1), some (.v (cI v4)), none, some (.v (cI r8.1)), none, none] [(a_c, .lst [(cL cI) j392.1.1, cI j392.1.2.1, cI j392.1.2.2.1, cI j392.1.2.2.2.1, cI j392.1.2.2.2.2]), (a1, .lst (List.map cP j392.2))] (dt_c (de_var (d := .v (cI r8.1)) 5) de_int c_eqI) (fun hk => ?_) (fun hk => ?_) ?_
    · have hm := cnd_t hk hj392
      obtain ⟨x393, hx393, hm⟩ := bnd hm
      obtain ⟨x394, hx394, hm⟩ := bnd hm
      obtain ⟨x395, hx395, hm⟩ := bnd hm
      obtain ⟨x396, hx396, hm⟩ := bnd hm
      obtain ⟨hg397, hm⟩ := gd_some hm
      obtain ⟨x398, hx398, hm⟩ := bnd hm
      obtain ⟨x399, hx399, hm⟩ := bnd hm
      obtain ⟨r400, hr400, hm⟩ := bnd hm
      obtain ⟨x401, hx401, hm⟩ := bnd hm
      obtain ⟨x402, hx402, hm⟩ := bnd hm
      refine dss_setT (c := cP) (xs := v2) (x := x401) (ω' := [(a_c, .lst [(cL cI) r400.2.1, cI r400.2.2.1, cI r400.2.2.2.1, cI r400.2.2.2.2.1, cI r400.2.2.2.2.2]), (a1, .lst (List.map cP x402)), (a7, .lst (List.map cP x6))]) 1 (de_ixLt (c := cP) (de_froz (dn_lst (ps := List.map cP ([(cB true), (cI (x394 - 1)), (cS (strI x396)), (cI (x399 + 1)), ((fun _ => PyData.none) ())] : List PyData)) (da_cons de_bl (da_cons (de_sub (de_asI (de_ixLt (c := cP) (de_var (d := .adr a1) 2) de_int (lc 1) hx393) hx394) de_int) (da_cons (de_strI T.z_str (de_asI (de_ixLt (c := cP) (de_var (d := .adr a1) 2) de_int (lc 1) hx395) hx396) hg397) (da_cons (de_add (de_asI (de_ixLt (c := cP) (de_var (d := .adr a1) 2) de_int (lc 1) hx398) hx399) de_int) (da_cons de_non da_nil))))))) (de_call (d := .v (cI r400.1)) (ωp := [(a_c, .lst [(cL cI) r8.2.1, cI r8.2.2.1, cI r8.2.2.2.1, cI r8.2.2.2.2.1, cI r8.2.2.2.2.2])]) (ωp' := [(a_c, .lst [(cL cI) r400.2.1, cI r400.2.2.1, cI r400.2.2.2.1, cI r400.2.2.2.2.1, cI r400.2.2.2.2.2])]) (ωr := [(a1, .lst (List.map cP v2)), (a7, .lst (List.map cP x6))]) (ω2 := [(a_c, .lst [(cL cI) r400.2.1, cI r400.2.2.1, cI r400.2.2.2.1, cI r400.2.2.2.2.1, cI r400.2.2.2.2.2]), (a1, .lst (List.map cP v2)), (a7, .lst (List.map cP x6))]) (ok_law_take T) (hr.mono (by decide)) T.m_law_take T.F_law_take.kp T.b_law_take (da_cons (de_var (d := .adr a_c) 0) (da_cons de_int da_nil)) ⟨(a_c, r8.2, 5), r400, rfl, rfl, hr400, rfl⟩ (fun _ _ h => h) [0, 1, 2] [0, 1, 2]) lv hx401) (de_var (d := .adr a1) 2) de_int hx402 ?_
      have hq := some_i hm
      subst hq
      exact dss_end ⟨.inr rfl, .inr rfl, .inr rfl, .inr rfl, .inl rfl, .inr rfl, .inl rfl, .inl rfl, trivial⟩ ⟨[0, 1], rfl, by decide⟩
    · have hm := cnd_f hk hj392
      obtain ⟨j588, hj588, hm⟩ := bnd hm
      refine dss_join (ω1 := [(a_c, .lst [(cL cI) r8.2.1, cI r8.2.2.1, cI r8.2.2.2.1, cI r8.2.2.2.2.1, cI r8.2.2.2.2.2]), (a1, .lst (List.map cP v2)), (a7, .lst (List.map cP x6))]) [some (.adr a_c), some (.v (cMach x_machine)), some (.adr a1), some (.v (cI v4)), none, some (.v (cI r8.1)), none, none] [(a_c, .lst [(cL cI) j588.1.1, cI j588.1.2.1, cI j588.1.2.2.1, cI j588.1.2.2.2.1, cI j588.1.2.2.2.2]), (a1, .lst (List.map cP j588.2))] (dt_c (de_var (d := .v (cI r8.1)) 5) de_int c_eqI) (fun hk => ?_) (fun hk => ?_) ?_
      · have hm := cnd_t hk hj588
        refine dss_frz (ps := List.map cP x6) (ω' := [(a_c, .lst [(cL cI) r8.2.1, cI r8.2.2.1, cI r8.2.2.2.1, cI r8.2.2.2.2.1, cI r8.2.2.2.2.2]), (a1, .lst (List.map cP v2))]) 4 [0, 1, 2] rfl rfl (by decide) ?_
        change DSs _ _ [some (.adr a_c), some (.v (cMach x_machine)), some (.adr a1), some (.v (cI v4)), some (.v ((cL cP) x6)), some (.v (cI r8.1)), none, none] _ _
        obtain ⟨x589, hx589, hm⟩ := bnd hm
        refine dss_setT (c := cP) (xs := v2) (x := ((cL cP) x6)) (ω' := [(a_c, .lst [(cL cI) r8.2.1, cI r8.2.2.1, cI r8.2.2.2.1, cI r8.2.2.2.2.1, cI r8.2.2.2.2.2]), (a1, .lst (List.map cP x589))]) 1 (de_var (d := .v ((cL cP) x6)) 4) (de_var (d := .adr a1) 2) (de_var (d := .v (cI v4)) 3) hx589 ?_
        have hq := some_i hm
        subst hq
        exact dss_end ⟨.inr rfl, .inr rfl, .inr rfl, .inr rfl, .inl rfl, .inr rfl, .inl rfl, .inl rfl, trivial⟩ ⟨[0, 1], rfl, by decide⟩
      · have hm := cnd_f hk hj588
        obtain ⟨j681, hj681, hm⟩ := bnd hm
        refine dss_joinE (ω1 := [(a_c, .lst [(cL cI) r8.2.1, cI r8.2.2.1, cI r8.2.2.2.1, cI r8.2.2.2.2.1, cI r8.2.2.2.2.2]), (a1, .lst (List.map cP v2)), (a7, .lst (List.map cP x6))]) (fun (a682 : Addr) => [some (.adr a_c), some (.v (cMach x_machine)), some (.adr a1), some (.v (cI v4)), some (.adr a682), some (.v (cI r8.1)), none, none]) (fun (a682 : Addr) => [(a_c, .lst [(cL cI) j681.1.1, cI j681.1.2.1, cI j681.1.2.2.1, cI j681.1.2.2.2.1, cI j681.1.2.2.2.2]), (a1, .lst (List.map cP j681.2.1)), (a682, .lst (List.map cP j681.2.2))]) (dt_truCt (c := cP) (xs := x6) 2 (de_var (d := .adr a7) 4)) (fun hk => ?_) (fun hk => ?_) (fun a682 => ?_)
        · have hm := cnd_t hk hj681
          obtain ⟨r683, hr683, hm⟩ := bnd hm
          refine dss_set (d := .v (cI r683.1)) (ρ' := [some (.adr a_c), some (.v (cMach x_machine)), some (.adr a1), some (.v (cI v4)), some (.adr a7), some (.v (cI r8.1)), some (.v (cI r683.1)), none]) (ω1 := [(a_c, .lst [(cL cI) r683.2.1, cI r683.2.2.1, cI r683.2.2.2.1, cI r683.2.2.2.2.1, cI r683.2.2.2.2.2]), (a1, .lst (List.map cP v2)), (a7, .lst (List.map cP x6))]) 6 (de_call (d := .v (cI r683.1)) (ωp := [(a_c, .lst [(cL cI) r8.2.1, cI r8.2.2.1, cI r8.2.2.2.1, cI r8.2.2.2.2.1, cI r8.2.2.2.2.2])]) (ωp' := [(a_c, .lst [(cL cI) r683.2.1, cI r683.2.2.1, cI r683.2.2.2.1, cI r683.2.2.2.2.1, cI r683.2.2.2.2.2])]) (ωr := [(a1, .lst (List.map cP v2)), (a7, .lst (List.map cP x6))]) (ω2 := [(a_c, .lst [(cL cI) r683.2.1, cI r683.2.2.1, cI r683.2.2.2.1, cI r683.2.2.2.2.1, cI r683.2.2.2.2.2]), (a1, .lst (List.map cP v2)), (a7, .lst (List.map cP x6))]) (ok_law_take T) (hr.mono (by decide)) T.m_law_take T.F_law_take.kp T.b_law_take (da_cons (de_var (d := .adr a_c) 0) (da_cons (de_lenLt (c := cP) (xs := x6) T.z_len (de_var (d := .adr a7) 4) (lc 2)) da_nil)) ⟨(a_c, r8.2, (x6.length : Int)), r683, rfl, rfl, hr683, rfl⟩ (fun _ _ h => h) [0, 1, 2] [0, 1, 2]) ?_
          obtain ⟨x684, hx684, hm⟩ := bnd hm
          obtain ⟨x685, hx685, hm⟩ := bnd hm
          refine dss_setN (cc := .lst (List.map cP x685)) (ω1 := [(a_c, .lst [(cL cI) r683.2.1, cI r683.2.2.1, cI r683.2.2.2.1, cI r683.2.2.2.2.1, cI r683.2.2.2.2.2]), (a1, .lst (List.map cP v2)), (a7, .lst (List.map cP x6))]) 7 (dn_listT (ps := List.map cP x685) T.z_list (de_asT (de_ixLt (c := cP) (de_var (d := .adr a7) 4) (de_var (d := .v (cI r683.1)) 6) (lc 2) hx684) hx685)) (fun a686 => ?_)
          change DSs _ _ [some (.adr a_c), some (.v (cMach x_machine)), some (.adr a1), some (.v (cI v4)), some (.adr a7), some (.v (cI r8.1)), some (.v (cI r683.1)), some (.adr a686)] [(a_c, .lst [(cL cI) r683.2.1, cI r683.2.2.1, cI r683.2.2.2.1, cI r683.2.2.2.2.1, cI r683.2.2.2.2.2]), (a1, .lst (List.map cP v2)), (a7, .lst (List.map cP x6)), (a686, .lst (List.map cP x685))] _
          obtain ⟨j729, hj729, hm⟩ := bnd hm
          refine dss_joinE (ω1 := [(a_c, .lst [(cL cI) r683.2.1, cI r683.2.2.1, cI r683.2.2.2.1, cI r683.2.2.2.2.1, cI r683.2.2.2.2.2]), (a1, .lst (List.map cP v2)), (a7, .lst (List.map cP x6)), (a686, .lst (List.map cP x685))]) (fun (a730 : Addr) => [some (.adr a_c), some (.v (cMach x_machine)), some (.adr a1), some (.v (cI v4)), some (.adr a730), some (.v (cI r8.1)), some (.v (cI r683.1)), some (.adr a686)]) (fun (a730 : Addr) => [(a_c, .lst [(cL cI) j729.1.1, cI j729.1.2.1, cI j729.1.2.2.1, cI j729.1.2.2.2.1, cI j729.1.2.2.2.2]), (a1, .lst (List.map cP v2)), (a686, .lst (List.map cP j729.2.1)), (a730, .lst (List.map cP j729.2.2))]) (dt_c (de_var (d := .v (cI r8.1)) 5) de_int c_eqI) (fun hk => ?_) (fun hk => ?_) (fun a730 => ?_)
          · have hm := cnd_t hk hj729
            obtain ⟨x731, hx731, hm⟩ := bnd hm
            obtain ⟨hg732, hm⟩ := gd_some hm
            refine dss_expr (ω1 := [(a_c, .lst [(cL cI) r683.2.1, cI r683.2.2.1, cI r683.2.2.2.1, cI r683.2.2.2.2.1, cI r683.2.2.2.2.2]), (a1, .lst (List.map cP v2)), (a7, .lst (List.map cP (x6 ++ [x731]))), (a686, .lst (List.map cP x685))]) (de_appendT (c := cP) (xs := x6) (x := x731) (ω' := [(a_c, .lst [(cL cI) r683.2.1, cI r683.2.2.1, cI r683.2.2.2.1, cI r683.2.2.2.2.1, cI r683.2.2.2.2.2]), (a1, .lst (List.map cP v2)), (a7, .lst (List.map cP (x6 ++ [x731]))), (a686, .lst (List.map cP x685))]) 2 (de_var (d := .adr a7) 4) (de_ixLt (c := cP) (de_var (d := .adr a7) 4) (de_var (d := .v (cI r683.1)) 6) (lc 2) hx731) hg732) ?_
            have hq := some_i hm
            subst hq
            exact dss_endE a7 ⟨.inr rfl, .inr rfl, .inr rfl, .inr rfl, .inr rfl, .inr rfl, .inr rfl, .inr rfl, trivial⟩ ⟨[0, 1, 3, 2], rfl, by decide⟩
          · have hm := cnd_f hk hj729
            obtain ⟨j752, hj752, hm⟩ := bnd hm
            refine dss_joinE (ω1 := [(a_c, .lst [(cL cI) r683.2.1, cI r683.2.2.1, cI r683.2.2.2.1, cI r683.2.2.2.2.1, cI r683.2.2.2.2.2]), (a1, .lst (List.map cP v2)), (a7, .lst (List.map cP x6)), (a686, .lst (List.map cP x685))]) (fun (a753 : Addr) => [some (.adr a_c), some (.v (cMach x_machine)), some (.adr a1), some (.v (cI v4)), some (.adr a753), some (.v (cI r8.1)), some (.v (cI r683.1)), some (.adr a686)]) (fun (a753 : Addr) => [(a_c, .lst [(cL cI) j752.1.1, cI j752.1.2.1, cI j752.1.2.2.1, cI j752.1.2.2.2.1, cI j752.1.2.2.2.2]), (a1, .lst (List.map cP v2)), (a686, .lst (List.map cP j752.2.1)), (a753, .lst (List.map cP j752.2.2))]) (dt_c (de_var (d := .v (cI r8.1)) 5) de_int c_eqI) (fun hk => ?_) (fun hk => ?_) (fun a753 => ?_)
            · have hm := cnd_t hk hj752
              obtain ⟨r754, hr754, hm⟩ := bnd hm
              obtain ⟨x755, hx755, hm⟩ := bnd hm
              obtain ⟨r756, hr756, hm⟩ := bnd hm
              obtain ⟨x757, hx757, hm⟩ := bnd hm
              refine dss_setT (c := cP) (xs := x685) (x := x755) (ω' := [(a_c, .lst [(cL cI) r756.2.1, cI r756.2.2.1, cI r756.2.2.2.1, cI r756.2.2.2.2.1, cI r756.2.2.2.2.2]), (a1, .lst (List.map cP v2)), (a7, .lst (List.map cP x6)), (a686, .lst (List.map cP x757))]) 3 (de_ixLt (c := cP) (de_froz (dn_lst (ps := List.map cP ([(cB true), (cS ([] : Wd)), (cS ([65] : Wd)), (cS ([97, 98] : Wd)), (cI (0 - 1)), ((fun _ => PyData.none) ()), (cI 99), (cS ([126] : Wd))] : List PyData)) (da_cons de_bl (da_cons (de_str ([] : Wd)) (da_cons (de_str ([65] : Wd)) (da_cons (de_str ([97, 98] : Wd)) (da_cons (de_sub de_int de_int) (da_cons de_non (da_cons de_int (da_cons (de_str ([126] : Wd)) da_nil)))))))))) (de_call (d := .v (cI r754.1)) (ωp := [(a_c, .lst [(cL cI) r683.2.1, cI r683.2.2.1, cI r683.2.2.2.1, cI r683.2.2.2.2.1, cI r683.2.2.2.2.2])]) (ωp' := [(a_c, .lst [(cL cI) r754.2.1, cI r754.2.2.1, cI r754.2.2.2.1, cI r754.2.2.2.2.1, cI r754.2.2.2.2.2])]) (ωr := [(a1, .lst (List.map cP v2)), (a7, .lst (List.map cP x6)), (a686, .lst (List.map cP x685))]) (ω2 := [(a_c, .lst [(cL cI) r754.2.1, cI r754.2.2.1, cI r754.2.2.2.1, cI r754.2.2.2.2.1, cI r754.2.2.2.2.2]), (a1, .lst (List.map cP v2)), (a7, .lst (List.map cP x6)), (a686, .lst (List.map cP x685))]) (ok_law_take T) (hr.mono (by decide)) T.m_law_take T.F_law_take.kp T.b_law_take (da_cons (de_var (d := .adr a_c) 0) (da_cons de_int da_nil)) ⟨(a_c, r683.2, 8), r754, rfl, rfl, hr754, rfl⟩ (fun _ _ h => h) [0, 1, 2, 3] [0, 1, 2, 3]) lv hx755) (de_var (d := .adr a686) 7) (de_call (d := .v (cI r756.1)) (ωp := [(a_c, .lst [(cL cI) r754.2.1, cI r754.2.2.1, cI r754.2.2.2.1, cI r754.2.2.2.2.1, cI r754.2.2.2.2.2])]) (ωp' := [(a_c, .lst [(cL cI) r756.2.1, cI r756.2.2.1, cI r756.2.2.2.1, cI r756.2.2.2.2.1, cI r756.2.2.2.2.2])]) (ωr := [(a1, .lst (List.map cP v2)), (a7, .lst (List.map cP x6)), (a686, .lst (List.map cP x685))]) (ω2 := [(a_c, .lst [(cL cI) r756.2.1, cI r756.2.2.1, cI r756.2.2.2.1, cI r756.2.2.2.2.1, cI r756.2.2.2.2.2]), (a1, .lst (List.map cP v2)), (a7, .lst (List.map cP x6)), (a686, .lst (List.map cP x685))]) (ok_law_take T) (hr.mono (by decide)) T.m_law_take T.F_law_take.kp T.b_law_take (da_cons (de_var (d := .adr a_c) 0) (da_cons (de_lenLt (c := cP) (xs := x685) T.z_len (de_var (d := .adr a686) 7) (lc 3)) da_nil)) ⟨(a_c, r754.2, (x685.length : Int)), r756, rfl, rfl, hr756, rfl⟩ (fun _ _ h => h) [0, 1, 2, 3] [0, 1, 2, 3]) hx757 ?_
              obtain ⟨x758, hx758, hm⟩ := bnd hm
              refine dss_setT (c := cP) (xs := x6) (x := ((cT cP) x757)) (ω' := [(a_c, .lst [(cL cI) r756.2.1, cI r756.2.2.1, cI r756.2.2.2.1, cI r756.2.2.2.2.1, cI r756.2.2.2.2.2]), (a1, .lst (List.map cP v2)), (a7, .lst (List.map cP x758)), (a686, .lst (List.map cP x757))]) 2 (de_tupleL (ps := List.map cP x757) T.z_tuple (de_var (d := .adr a686) 7) (lc 3)) (de_var (d := .adr a7) 4) (de_var (d := .v (cI r683.1)) 6) hx758 ?_
              have hq := some_i hm
              subst hq
              exact dss_endE a7 ⟨.inr rfl, .inr rfl, .inr rfl, .inr rfl, .inr rfl, .inr rfl, .inr rfl, .inr rfl, trivial⟩ ⟨[0, 1, 3, 2], rfl, by decide⟩
            · have hm := cnd_f hk hj752
              obtain ⟨j765, hj765, hm⟩ := bnd hm
              refine dss_joinE (ω1 := [(a_c, .lst [(cL cI) r683.2.1, cI r683.2.2.1, cI r683.2.2.2.1, cI r683.2.2.2.2.1, cI r683.2.2.2.2.2]), (a1, .lst (List.map cP v2)), (a7, .lst (List.map cP x6)), (a686, .lst (List.map cP x685))]) (fun (a766 : Addr) => [some (.adr a_c), some (.v (cMach x_machine)), some (.adr a1), some (.v (cI v4)), some (.adr a766), some (.v (cI r8.1)), some (.v (cI r683.1)), some (.adr a686)]) (fun (a766 : Addr) => [(a_c, .lst [(cL cI) j765.1.1, cI j765.1.2.1, cI j765.1.2.2.1, cI j765.1.2.2.2.1, cI j765.1.2.2.2.2]), (a1, .lst (List.map cP v2)), (a686, .lst (List.map cP x685)), (a766, .lst (List.map cP j765.2))]) (dt_c (de_var (d := .v (cI r8.1)) 5) de_int c_eqI) (fun hk => ?_) (fun hk => ?_) (fun a766 => ?_)
              · have hm := cnd_t hk hj765
                refine dss_setN (cc := .lst (List.map cP x6.reverse)) (ω1 := [(a_c, .lst [(cL cI) r683.2.1, cI r683.2.2.1, cI r683.2.2.2.1, cI r683.2.2.2.2.1, cI r683.2.2.2.2.2]), (a1, .lst (List.map cP v2)), (a7, .lst (List.map cP x6)), (a686, .lst (List.map cP x685))]) 4 (dn_revT (c := cP) (xs := x6) (de_var (d := .adr a7) 4) (de_sub de_int de_int) (lc 2)) (fun a767 => ?_)
                change DSs _ _ [some (.adr a_c), some (.v (cMach x_machine)), some (.adr a1), some (.v (cI v4)), some (.adr a767), some (.v (cI r8.1)), some (.v (cI r683.1)), some (.adr a686)] [(a_c, .lst [(cL cI) r683.2.1, cI r683.2.2.1, cI r683.2.2.2.1, cI r683.2.2.2.2.1, cI r683.2.2.2.2.2]), (a1, .lst (List.map cP v2)), (a7, .lst (List.map cP x6)), (a686, .lst (List.map cP x685)), (a767, .lst (List.map cP x6.reverse))] _
                have hq := some_i hm
                subst hq
                exact dss_endE a767 ⟨.inr rfl, .inr rfl, .inr rfl, .inr rfl, .inr rfl, .inr rfl, .inr rfl, .inr rfl, trivial⟩ ⟨[0, 1, 3, 4], rfl, by decide⟩
              · have hm := cnd_f hk hj765
                obtain ⟨x768, hx768, hm⟩ := bnd hm
                obtain ⟨hg769, hm⟩ := gd_some hm
                obtain ⟨r770, hr770, hm⟩ := bnd hm
                obtain ⟨x771, hx771, hm⟩ := bnd hm
                obtain ⟨x772, hx772, hm⟩ := bnd hm
                refine dss_setT (c := cP) (xs := x6) (x := x771) (ω' := [(a_c, .lst [(cL cI) r770.2.1, cI r770.2.2.1, cI r770.2.2.2.1, cI r770.2.2.2.2.1, cI r770.2.2.2.2.2]), (a1, .lst (List.map cP v2)), (a7, .lst (List.map cP x772)), (a686, .lst (List.map cP x685))]) 2 (de_ixLt (c := cP) (de_froz (dn_lst (ps := List.map cP ([x768, ((cT cP) (cut x685 none (some (0 - 1)))), ((cT cP) (x685 ++ (List.map cI ([0] : List Int))))] : List PyData)) (da_cons (de_ixLt (c := cP) (de_var (d := .adr a686) 7) de_int (lc 3) hx768) (da_cons (de_tupleL (ps := List.map cP (cut x685 none (some (0 - 1)))) T.z_tuple (de_froz (dn_sliceLt (c := cP) (xs := x685) (de_var (d := .adr a686) 7) do_none (do_some (de_sub de_int de_int)) (lc 3))) lv) (da_cons (de_tupleL (ps := List.map cP (x685 ++ (List.map cI ([0] : List Int)))) T.z_tuple (de_froz (dn_catT (c := cP) (xs := x685) (ys := (List.map cI ([0] : List Int))) (de_var (d := .adr a686) 7) (de_is (de_froz (dn_lst (ps := List.map cI ([0] : List Int)) (da_cons de_int da_nil))) cL_P) (lc 3) lv hg769)) lv) da_nil))))) (de_call (d := .v (cI r770.1)) (ωp := [(a_c, .lst [(cL cI) r683.2.1, cI r683.2.2.1, cI r683.2.2.2.1, cI r683.2.2.2.2.1, cI r683.2.2.2.2.2])]) (ωp' := [(a_c, .lst [(cL cI) r770.2.1, cI r770.2.2.1, cI r770.2.2.2.1, cI r770.2.2.2.2.1, cI r770.2.2.2.2.2])]) (ωr := [(a1, .lst (List.map cP v2)), (a7, .lst (List.map cP x6)), (a686, .lst (List.map cP x685))]) (ω2 := [(a_c, .lst [(cL cI) r770.2.1, cI r770.2.2.1, cI r770.2.2.2.1, cI r770.2.2.2.2.1, cI r770.2.2.2.2.2]), (a1, .lst (List.map cP v2)), (a7, .lst (List.map cP x6)), (a686, .lst (List.map cP x685))]) (ok_law_take T) (hr.mono (by decide)) T.m_law_take T.F_law_take.kp T.b_law_take (da_cons (de_var (d := .adr a_c) 0) (da_cons de_int da_nil)) ⟨(a_c, r683.2, 3), r770, rfl, rfl, hr770, rfl⟩ (fun _ _ h => h) [0, 1, 2, 3] [0, 1, 2, 3]) lv hx771) (de_var (d := .adr a7) 4) (de_var (d := .v (cI r683.1)) 6) hx772 ?_
                have hq := some_i hm
                subst hq
                exact dss_endE a7 ⟨.inr rfl, .inr rfl, .inr rfl, .inr rfl, .inr rfl, .inr rfl, .inr rfl, .inr rfl, trivial⟩ ⟨[0, 1, 3, 2], rfl, by decide⟩
              change DSs _ _ [some (.adr a_c), some (.v (cMach x_machine)), some (.adr a1), some (.v (cI v4)), some (.adr a766), some (.v (cI r8.1)), some (.v (cI r683.1)), some (.adr a686)] [(a_c, .lst [(cL cI) j765.1.1, cI j765.1.2.1, cI j765.1.2.2.1, cI j765.1.2.2.2.1, cI j765.1.2.2.2.2]), (a1, .lst (List.map cP v2)), (a686, .lst (List.map cP x685)), (a766, .lst (List.map cP j765.2))] _
              have hq := some_i hm
              subst hq
              exact dss_endE a766 ⟨.inr rfl, .inr rfl, .inr rfl, .inr rfl, .inr rfl, .inr rfl, .inr rfl, .inr rfl, trivial⟩ ⟨[0, 1, 2, 3], rfl, by decide⟩
            change DSs _ _ [some (.adr a_c), some (.v (cMach x_machine)), some (.adr a1), some (.v (cI v4)), some (.adr a753), some (.v (cI r8.1)), some (.v (cI r683.1)), some (.adr a686)] [(a_c, .lst [(cL cI) j752.1.1, cI j752.1.2.1, cI j752.1.2.2.1, cI j752.1.2.2.2.1, cI j752.1.2.2.2.2]), (a1, .lst (List.map cP v2)), (a686, .lst (List.map cP j752.2.1)), (a753, .lst (List.map cP j752.2.2))] _
            have hq := some_i hm
            subst hq
            exact dss_endE a753 ⟨.inr rfl, .inr rfl, .inr rfl, .inr rfl, .inr rfl, .inr rfl, .inr rfl, .inr rfl, trivial⟩ ⟨[0, 1, 2, 3], rfl, by decide⟩
          change DSs _ _ [some (.adr a_c), some (.v (cMach x_machine)), some (.adr a1), some (.v (cI v4)), some (.adr a730), some (.v (cI r8.1)), some (.v (cI r683.1)), some (.adr a686)] [(a_c, .lst [(cL cI) j729.1.1, cI j729.1.2.1, cI j729.1.2.2.1, cI j729.1.2.2.2.1, cI j729.1.2.2.2.2]), (a1, .lst (List.map cP v2)), (a686, .lst (List.map cP j729.2.1)), (a730, .lst (List.map cP j729.2.2))] _
          obtain ⟨x773, hx773, hm⟩ := bnd hm
          refine dss_setT (c := cP) (xs := v2) (x := ((cT cP) j729.2.2)) (ω' := [(a_c, .lst [(cL cI) j729.1.1, cI j729.1.2.1, cI j729.1.2.2.1, cI j729.1.2.2.2.1, cI j729.1.2.2.2.2]), (a1, .lst (List.map cP x773)), (a686, .lst (List.map cP j729.2.1)), (a730, .lst (List.map cP j729.2.2))]) 1 (de_tupleL (ps := List.map cP j729.2.2) T.z_tuple (de_var (d := .adr a730) 4) (lc 3)) (de_var (d := .adr a1) 2) (de_var (d := .v (cI v4)) 3) hx773 ?_
          have hq := some_i hm
          subst hq
          exact dss_endE a730 ⟨.inr rfl, .inr rfl, .inr rfl, .inr rfl, .inr rfl, .inr rfl, .inl rfl, .inl rfl, trivial⟩ ⟨[0, 1, 3], rfl, by decide⟩
        · have hm := cnd_f hk hj681
          have hq := some_i hm
          subst hq
          exact dss_endE a7 ⟨.inr rfl, .inr rfl, .inr rfl, .inr rfl, .inr rfl, .inr rfl, .inl rfl, .inl rfl, trivial⟩ ⟨[0, 1, 2], rfl, by decide⟩
        change DSs _ _ [some (.adr a_c), some (.v (cMach x_machine)), some (.adr a1), some (.v (cI v4)), some (.adr a682), some (.v (cI r8.1)), none, none] [(a_c, .lst [(cL cI) j681.1.1, cI j681.1.2.1, cI j681.1.2.2.1, cI j681.1.2.2.2.1, cI j681.1.2.2.2.2]), (a1, .lst (List.map cP j681.2.1)), (a682, .lst (List.map cP j681.2.2))] _
        have hq := some_i hm
        subst hq
        exact dss_end ⟨.inr rfl, .inr rfl, .inr rfl, .inr rfl, .inl rfl, .inr rfl, .inl rfl, .inl rfl, trivial⟩ ⟨[0, 1], rfl, by decide⟩
      have hq := some_i hm
      subst hq
      exact dss_end ⟨.inr rfl, .inr rfl, .inr rfl, .inr rfl, .inl rfl, .inr rfl, .inl rfl, .inl rfl, trivial⟩ ⟨[0, 1], rfl, by decide⟩
    have hq := some_i hm
    subst hq
    exact dss_ret (ω1 := [(a_c, .lst [(cL cI) j392.1.1, cI j392.1.2.1, cI j392.1.2.2.1, cI j392.1.2.2.2.1, cI j392.1.2.2.2.2])]) (de_drop (de_tupleL (ps := List.map cP j392.2) T.z_tuple (de_var (d := .adr a1) 2) (lc 1)) ⟨[0], rfl, by decide⟩) (by first | exact ⟨rfl, rfl⟩ | exact ⟨⟨rfl, rfl⟩, fun z => z⟩ | exact ⟨⟨⟨rfl, rfl⟩, fun z => z⟩, fun z => z⟩ | exact ⟨⟨⟨⟨rfl, rfl⟩, fun z => z⟩, fun z => z⟩, fun z => z⟩)
end
end K44
end

section
set_option Elab.async false
set_option linter.all false
set_option maxRecDepth 100000
set_option maxHeartbeats 4000000
namespace K44
open PySem L2 Q TL
section
variable {P : Program} {w : World} {K : PySem.W.Frag} {mg : Str → Option Value} {base : Heap}
theorem ok_is_word (T : Txt P K mg) : FnOk P w K mg base CX0 1 T.f_is_word T.d_is_word ["value"] (SpC (Mir (A := PyData) (fun x => m_is_word x) (fun x => [.v x]) (fun x => []) (fun x t => .v (cB t)) (fun x t => []))) := by
  refine fn_d (k := 0) T.F_is_word sc_is_word (by rintro _ _ _ ⟨x, t, rfl, _⟩; rfl) (by decide) fun cdv A outer s H E ds ω Pr hr hR => ?_
  obtain ⟨x_value, t, rfl, rfl, hm, rfl⟩ := hR
  skip
  have nd := sc_is_word.nd
  have hu := hr.units
  change m_is_word x_value = some t at hm
  unfold m_is_word at hm
  change DSs _ _ [some (.v x_value), none] [] _
  obtain ⟨b4, hb4, hm⟩ := bnd hm
  have hq := some_i hm
  subst hq
  exact dss_ret (ω1 := []) (de_is (de_and (de_isiStr T.z_isinstance T.z_str (de_var (d := .v x_value) 0)) (fun hk5 => by
        have hm := cnd_t hk5 hb4
        obtain ⟨x1, hx1, hm⟩ := bnd hm
        have hq := some_i hm
        subst hq
        exact (de_and1 (de_all (bs := List.map (fun (e2 : Nat) => (decide (e2 ∈ ([97, 98, 99, 100, 101, 102, 103, 104, 105, 106, 107, 108, 109, 110, 111, 112, 113, 114, 115, 116, 117, 118, 119, 120, 121, 122] : Wd)))) x1) rfl T.z_all (de_froz (dn_of (comp_d (cy := cB) [("letter", 1)] (.nm 1) _ (fun z => .v (cS [z])) (fun s3 => []) _ _ _ (compO_map (fun (e2 : Nat) => (decide (e2 ∈ ([97, 98, 99, 100, 101, 102, 103, 104, 105, 106, 107, 108, 109, 110, 111, 112, 113, 114, 115, 116, 117, 118, 119, 120, 121, 122] : Wd)))) x1) (di_str (de_asS (de_var (d := .v x_value) 0) hx1)) (Pk.refl _) (blkOk_by (N := ["value", "letter"]) (sc := defScope s_is_word) (own := [("letter", 1)]) (by decide +kernel)) (fun _ _ _ _ _ => pg_name (i := 1) nd rfl (by first | exact Or.inl rfl | exact Or.inr rfl)) (by intro i hi; revert i hi; decide) (fun _ => rfl) (fun _ _ _ _ hb _ _ _ _ _ => by cases (some_i hb); exact dts_nil) (fun e2 s3 _ hx _ hb _ _ _ _ _ => by
          have hm := hb
          have hq := some_i hm
          subst hq
          exact (de_c (de_var (d := .v (cS [e2])) 1) (de_gstr ([97, 98, 99, 100, 101, 102, 103, 104, 105, 106, 107, 108, 109, 110, 111, 112, 113, 114, 115, 116, 117, 118, 119, 120, 121, 122] : Wd) rfl T.g_LETTERS.choose_spec) c_inS))))))))) (congrArg (fun b => D.v (cB b)) (and_val hb4))) (by first | exact ⟨rfl, rfl⟩ | exact ⟨⟨rfl, rfl⟩, fun z => z⟩ | exact ⟨⟨⟨rfl, rfl⟩, fun z => z⟩, fun z => z⟩ | exact ⟨⟨⟨⟨rfl, rfl⟩, fun z => z⟩, fun z => z⟩, fun z => z⟩)
end
end K44
end

section
set_option Elab.async false
set_option linter.all false
set_option maxRecDepth 100000
set_option maxHeartbeats 4000000
namespace K44
open PySem L2 Q TL
section
variable {P : Program} {w : World} {K : PySem.W.Frag} {mg : Str → Option Value} {base : Heap}
theorem ok_shown (T : Txt P K mg) : FnOk P w K mg base CX0 1 T.f_shown T.d_shown ["word"] (SpC (Mir (A := Wd) (fun x => m_shown x) (fun x => [.v (cS x)]) (fun x => []) (fun x t => .v (cS t)) (fun x t => []))) := by
  refine fn_d (k := 0) T.F_shown sc_shown (by rintro _ _ _ ⟨x, t, rfl, _⟩; rfl) (by decide) fun cdv A outer s H E ds ω Pr hr hR => ?_
  obtain ⟨x_word, t, rfl, rfl, hm, rfl⟩ := hR
  skip
  have nd := sc_shown.nd
  have hu := hr.units
  change m_shown x_word = some t at hm
  unfold m_shown at hm
  change DSs _ _ [some (.v (cS x_word))] [] _
  obtain ⟨y1, hy1, hm⟩ := bnd hm
  have hq := some_i hm
  subst hq
  exact dss_ret (ω1 := []) (de_if (d := .v (cS y1)) (ω2 := []) (dt_c (de_var (d := .v (cS x_word)) 0) (de_str ([] : Wd)) c_neS) (fun hk => by
        have hm := cnd_t hk hy1
  
        have hq := some_i hm
        subst hq
        exact (de_var (d := .v (cS x_word)) 0)) (fun hk => by
        have hm := cnd_f hk hy1
  
        have hq := some_i hm
        subst hq
        exact (de_gstr ([45] : Wd) rfl T.g_NOTHING.choose_spec))) (by first | exact ⟨rfl, rfl⟩ | exact ⟨⟨rfl, rfl⟩, fun z => z⟩ | exact ⟨⟨⟨rfl, rfl⟩, fun z => z⟩, fun z => z⟩ | exact ⟨⟨⟨⟨rfl, rfl⟩, fun z => z⟩, fun z => z⟩, fun z => z⟩)
end
end K44
end

section
set_option Elab.async false
set_option linter.all false
set_option maxRecDepth 100000
set_option maxHeartbeats 4000000
namespace K44
open PySem L2 Q TL
section
variable {P : Program} {w : World} {K : PySem.W.Frag} {mg : Str → Option Value} {base : Heap}
theorem ok_show (T : Txt P K mg) : FnOk P w K mg base CX0 2 T.f_show T.d_show ["machine"] (SpC (Mir (A := Mach) (fun x => m_show x) (fun x => [.v (cMach x)]) (fun x => []) (fun x t => .v (cS t)) (fun x t => []))) := by
  refine fn_d (k := 1) T.F_show sc_show (by rintro _ _ _ ⟨x, t, rfl, _⟩; rfl) (by decide) fun cdv A outer s H E ds ω Pr hr hR => ?_
  obtain ⟨x_machine, t, rfl, rfl, hm, rfl⟩ := hR
  skip
  have nd := sc_show.nd
  have hu := hr.units
  change m_show x_machine = some t at hm
  unfold m_show at hm
  change DSs _ _ [some (.v (cMach x_machine)), none, none, none, none, none, none, none, none, none, none] [] _
  refine dss_asg (d := .v (cMach x_machine)) (ω1 := []) (.tp [2, 3, 4, 5]) (de_var (d := .v (cMach x_machine)) 0) (pg_tup rfl (pgs_cons (pg_name (i := 2) nd rfl (by first | exact Or.inl rfl | exact Or.inr rfl)) (pgs_cons (pg_name (i := 3) nd rfl (by first | exact Or.inl rfl | exact Or.inr rfl)) (pgs_cons (pg_name (i := 4) nd rfl (by first | exact Or.inl rfl | exact Or.inr rfl)) (pgs_cons (pg_name (i := 5) nd rfl (by first | exact Or.inl rfl | exact Or.inr rfl)) (pgs_nil)))))) rfl ?_
  change DSs _ _ [some (.v (cMach x_machine)), none, some (.v (cI x_machine.1)), some (.v ((cT cPW) x_machine.2.1)), some (.v ((cT cEW) x_machine.2.2.1)), some (.v ((cT cPW) x_machine.2.2.2)), none, none, none, none, none] _ _
  obtain ⟨hg1, hm⟩ := gd_some hm
  obtain ⟨hg2, hm⟩ := gd_some hm
  obtain ⟨v4, hv4, hm⟩ := lt_some hm
  refine dss_setN (cc := .lst (List.map cS v4)) (ω1 := []) 1 (dn_is (c := .lst (List.map cS ([(([115, 116, 97, 116, 101, 115, 32] : Wd) ++ strI x_machine.1)] : List Wd))) (dn_lst (ps := List.map cS ([(([115, 116, 97, 116, 101, 115, 32] : Wd) ++ strI x_machine.1)] : List Wd)) (da_cons (de_addS (de_str ([115, 116, 97, 116, 101, 115, 32] : Wd)) (de_strI T.z_str (de_var (d := .v (cI x_machine.1)) 2) hg1) hg2) da_nil)) (by rw [hv4])) (fun a3 => ?_)
  change DSs _ _ [some (.v (cMach x_machine)), some (.adr a3), some (.v (cI x_machine.1)), some (.v ((cT cPW) x_machine.2.1)), some (.v ((cT cEW) x_machine.2.2.1)), some (.v ((cT cPW) x_machine.2.2.2)), none, none, none, none, none] [(a3, .lst (List.map cS v4))] _
  obtain ⟨l12, hl12, hm⟩ := bnd hm
  obtain ⟨hg13, hm⟩ := gd_some hm
  refine dss_expr (ω1 := [(a3, .lst (List.map cS (v4 ++ l12.1)))]) (de_extendT (c := cS) (xs := v4) (ys := l12.1) (ω' := [(a3, .lst (List.map cS (v4 ++ l12.1)))]) 0 (de_var (d := .adr a3) 1) (de_froz (dn_of (comp_d (cy := cS) [("state", 6), ("word", 8)] (.tp [6, 8]) _ (fun x => .v (cPW x)) (fun s11 => [(a3, .lst (List.map cS v4))]) _ _ _ hl12 (di_tupT (c := cPW) (de_var (d := .v ((cT cPW) x_machine.2.1)) 3)) (Pk.refl _) (blkOk_by (N := ["machine", "lines", "many", "starts", "edges", "ends", "state", "letter", "word", "target", "line"]) (sc := defScope s_show) (own := [("state", 6), ("word", 8)]) (by decide +kernel)) (fun _ _ _ _ _ => pg_tup rfl (pgs_cons (pg_name (i := 6) nd rfl (by first | exact Or.inl rfl | exact Or.inr rfl)) (pgs_cons (pg_name (i := 8) nd rfl (by first | exact Or.inl rfl | exact Or.inr rfl)) (pgs_nil)))) (by intro i hi; revert i hi; decide) (fun _ => rfl) (fun _ _ _ _ hb _ _ _ _ _ => by cases (some_i hb); exact dts_nil) (fun e5 s11 _ hx _ hb _ _ _ _ _ => by
          have hm := hb
          obtain ⟨hg6, hm⟩ := gd_some hm
          obtain ⟨hg7, hm⟩ := gd_some hm
          obtain ⟨hg8, hm⟩ := gd_some hm
          obtain ⟨r9, hr9, hm⟩ := bnd hm
          obtain ⟨hg10, hm⟩ := gd_some hm
          have hq := some_i hm
          subst hq
          exact (de_addS (de_addS (de_addS (de_str ([115, 116, 97, 114, 116, 32] : Wd)) (de_strI T.z_str (de_var (d := .v (cI e5.1)) 6) hg6) hg7) (de_str ([32] : Wd)) hg8) (de_call (d := .v (cS r9)) (ωp := []) (ωp' := []) (ωr := [(a3, .lst (List.map cS v4))]) (ω2 := [(a3, .lst (List.map cS v4))]) (ok_shown T) (hr.mono (by decide)) T.m_shown T.F_shown.kp T.b_shown (da_cons (de_var (d := .v (cS e5.2)) 8) da_nil) ⟨e5.2, r9, rfl, rfl, hr9, rfl⟩ (fun _ _ h => h) [0] [0]) hg10))))) lv hg13) ?_
  obtain ⟨s15, hs15, hm⟩ := bnd hm
  refine dss_forS (.tp [6, 7, 8, 9]) _ (fun x => .v (cEW x)) (fun (s14 : (List Wd)) => [some (.v (cMach x_machine)), some (.adr a3), some (.v (cI x_machine.1)), some (.v ((cT cPW) x_machine.2.1)), some (.v ((cT cEW) x_machine.2.2.1)), some (.v ((cT cPW) x_machine.2.2.2)), none, none, none, none, none]) (fun (s14 : (List Wd)) => [(a3, .lst (List.map cS s14))]) _ _ _ hs15 (di_tupT (c := cEW) (de_var (d := .v ((cT cEW) x_machine.2.2.1)) 4)) (pg_tup rfl (pgs_cons (pg_name (i := 6) nd rfl (by first | exact Or.inl rfl | exact Or.inr rfl)) (pgs_cons (pg_name (i := 7) nd rfl (by first | exact Or.inl rfl | exact Or.inr rfl)) (pgs_cons (pg_name (i := 8) nd rfl (by first | exact Or.inl rfl | exact Or.inr rfl)) (pgs_cons (pg_name (i := 9) nd rfl (by first | exact Or.inl rfl | exact Or.inr rfl)) (pgs_nil)))))) ⟨.inr rfl, .inr rfl, .inr rfl, .inr rfl, .inr rfl, .inr rfl, .inl rfl, .inl rfl, .inl rfl, .inl rfl, .inl rfl, trivial⟩ ⟨[0], rfl, by decide⟩ (fun _ => rfl) ?_ ?_ PassesOwn.never
  · intro e16 s14 k hx hm
    change DSs _ _ [some (.v (cMach x_machine)), some (.adr a3), some (.v (cI x_machine.1)), some (.v ((cT cPW) x_machine.2.1)), some (.v ((cT cEW) x_machine.2.2.1)), some (.v ((cT cPW) x_machine.2.2.2)), some (.v (cI e16.1)), some (.v (cS e16.2.1)), some (.v (cS e16.2.2.1)), some (.v (cI e16.2.2.2)), none] [(a3, .lst (List.map cS s14))] _
    obtain ⟨hg17, hm⟩ := gd_some hm
    obtain ⟨r18, hr18, hm⟩ := bnd hm
    obtain ⟨hg19, hm⟩ := gd_some hm
    obtain ⟨hg20, hm⟩ := gd_some hm
    obtain ⟨hg21, hm⟩ := gd_some hm
    refine dss_expr (ω1 := [(a3, .lst (List.map cS (s14 ++ [TL.joinL ([32] : Wd) ([([101, 100, 103, 101] : Wd), strI e16.1, e16.2.1, r18, strI e16.2.2.2] : List Wd)])))]) (de_appendT (c := cS) (xs := s14) (x := TL.joinL ([32] : Wd) ([([101, 100, 103, 101] : Wd), strI e16.1, e16.2.1, r18, strI e16.2.2.2] : List Wd)) (ω' := [(a3, .lst (List.map cS (s14 ++ [TL.joinL ([32] : Wd) ([([101, 100, 103, 101] : Wd), strI e16.1, e16.2.1, r18, strI e16.2.2.2] : List Wd)])))]) 0 (de_var (d := .adr a3) 1) (de_join (ws := ([([101, 100, 103, 101] : Wd), strI e16.1, e16.2.1, r18, strI e16.2.2.2] : List Wd)) (de_str ([32] : Wd)) (de_froz (dn_lst (ps := List.map cS ([([101, 100, 103, 101] : Wd), strI e16.1, e16.2.1, r18, strI e16.2.2.2] : List Wd)) (da_cons (de_str ([101, 100, 103, 101] : Wd)) (da_cons (de_strI T.z_str (de_var (d := .v (cI e16.1)) 6) hg17) (da_cons (de_var (d := .v (cS e16.2.1)) 7) (da_cons (de_call (d := .v (cS r18)) (ωp := []) (ωp' := []) (ωr := [(a3, .lst (List.map cS s14))]) (ω2 := [(a3, .lst (List.map cS s14))]) (ok_shown T) (hr.mono (by decide)) T.m_shown T.F_shown.kp T.b_shown (da_cons (de_var (d := .v (cS e16.2.2.1)) 8) da_nil) ⟨e16.2.2.1, r18, rfl, rfl, hr18, rfl⟩ (fun _ _ h => h) [0] [0]) (da_cons (de_strI T.z_str (de_var (d := .v (cI e16.2.2.2)) 9) hg19) da_nil))))))) lv hg20) hg21) ?_
    have hq := some_i hm
    subst hq
    exact dss_nil ⟨_, _, .inl rfl, ⟨.inr rfl, .inr rfl, .inr rfl, .inr rfl, .inr rfl, .inr rfl, .inl rfl, .inl rfl, .inl rfl, .inl rfl, .inl rfl, trivial⟩, ⟨[0], rfl, by decide⟩⟩
  change DSs _ _ [some (.v (cMach x_machine)), some (.adr a3), some (.v (cI x_machine.1)), some (.v ((cT cPW) x_machine.2.1)), some (.v ((cT cEW) x_machine.2.2.1)), some (.v ((cT cPW) x_machine.2.2.2)), none, none, none, none, none] [(a3, .lst (List.map cS s15))] _
  obtain ⟨l29, hl29, hm⟩ := bnd hm
  obtain ⟨hg30, hm⟩ := gd_some hm
  refine dss_expr (ω1 := [(a3, .lst (List.map cS (s15 ++ l29.1)))]) (de_extendT (c := cS) (xs := s15) (ys := l29.1) (ω' := [(a3, .lst (List.map cS (s15 ++ l29.1)))]) 0 (de_var (d := .adr a3) 1) (de_froz (dn_of (comp_d (cy := cS) [("state", 6), ("word", 8)] (.tp [6, 8]) _ (fun x => .v (cPW x)) (fun s28 => [(a3, .lst (List.map cS s15))]) _ _ _ hl29 (di_tupT (c := cPW) (de_var (d := .v ((cT cPW) x_machine.2.2.2)) 5)) (Pk.refl _) (blkOk_by (N := ["machine", "lines", "many", "starts", "edges", "ends", "state", "letter", "word", "target", "line"]) (sc := defScope s_show) (own := [("state", 6), ("word", 8)]) (by decide +kernel)) (fun _ _ _ _ _ => pg_tup rfl (pgs_cons (pg_name (i := 6) nd rfl (by first | exact Or.inl rfl | exact Or.inr rfl)) (pgs_cons (pg_name (i := 8) nd rfl (by first | exact Or.inl rfl | exact Or.inr rfl)) (pgs_nil)))) (by intro i hi; revert i hi; decide) (fun _ => rfl) (fun _ _ _ _ hb _ _ _ _ _ => by cases (some_i hb); exact dts_nil) (fun e22 s28 _ hx _ hb _ _ _ _ _ => by
          have hm := hb
          obtain ⟨hg23, hm⟩ := gd_some hm
          obtain ⟨hg24, hm⟩ := gd_some hm
          obtain ⟨hg25, hm⟩ := gd_some hm
          obtain ⟨r26, hr26, hm⟩ := bnd hm
          obtain ⟨hg27, hm⟩ := gd_some hm
          have hq := some_i hm
          subst hq
          exact (de_addS (de_addS (de_addS (de_str ([101, 110, 100, 32] : Wd)) (de_strI T.z_str (de_var (d := .v (cI e22.1)) 6) hg23) hg24) (de_str ([32] : Wd)) hg25) (de_call (d := .v (cS r26)) (ωp := []) (ωp' := []) (ωr := [(a3, .lst (List.map cS s15))]) (ω2 := [(a3, .lst (List.map cS s15))]) (ok_shown T) (hr.mono (by decide)) T.m_shown T.F_shown.kp T.b_shown (da_cons (de_var (d := .v (cS e22.2)) 8) da_nil) ⟨e22.2, r26, rfl, rfl, hr26, rfl⟩ (fun _ _ h => h) [0] [0]) hg27))))) lv hg30) ?_
  refine dss_frz (ps := List.map cS (s15 ++ l29.1)) (ω' := []) 1 [0] rfl rfl (by decide) ?_
  change DSs _ _ [some (.v (cMach x_machine)), some (.v ((cL cS) (s15 ++ l29.1))), some (.v (cI x_machine.1)), some (.v ((cT cPW) x_machine.2.1)), some (.v ((cT cEW) x_machine.2.2.1)), some (.v ((cT cPW) x_machine.2.2.2)), none, none, none, none, none] _ _
  obtain ⟨l34, hl34, hm⟩ := bnd hm
  obtain ⟨hg35, hm⟩ := gd_some hm
  have hq := some_i hm
  subst hq
  exact dss_ret (ω1 := []) (de_join (ws := l34.1) (de_str ([] : Wd)) (de_froz (dn_of (comp_d (cy := cS) [("line", 10)] (.nm 10) _ (fun x => .v (cS x)) (fun s33 => []) _ _ _ hl34 (di_listT (c := cS) (de_var (d := .v ((cL cS) (s15 ++ l29.1))) 1)) (Pk.refl _) (blkOk_by (N := ["machine", "lines", "many", "starts", "edges", "ends", "state", "letter", "word", "target", "line"]) (sc := defScope s_show) (own := [("line", 10)]) (by decide +kernel)) (fun _ _ _ _ _ => pg_name (i := 10) nd rfl (by first | exact Or.inl rfl | exact Or.inr rfl)) (by intro i hi; revert i hi; decide) (fun _ => rfl) (fun _ _ _ _ hb _ _ _ _ _ => by cases (some_i hb); exact dts_nil) (fun e31 s33 _ hx _ hb _ _ _ _ _ => by
          have hm := hb
          obtain ⟨hg32, hm⟩ := gd_some hm
          have hq := some_i hm
          subst hq
          exact (de_addS (de_var (d := .v (cS e31)) 10) (de_str ([10] : Wd)) hg32))))) lv hg35) (by first | exact ⟨rfl, rfl⟩ | exact ⟨⟨rfl, rfl⟩, fun z => z⟩ | exact ⟨⟨⟨rfl, rfl⟩, fun z => z⟩, fun z => z⟩ | exact ⟨⟨⟨⟨rfl, rfl⟩, fun z => z⟩, fun z => z⟩, fun z => z⟩)
end
end K44
end

section
set_option Elab.async false
set_option linter.all false
set_option maxRecDepth 100000
set_option maxHeartbeats 4000000
namespace K44
open PySem L2 Q TL
section
variable {P : Program} {w : World} {K : PySem.W.Frag} {mg : Str → Option Value} {base : Heap}
theorem ok_number_of (T : Txt P K mg) : FnOk P w K mg base CX0 1 T.f_number_of T.d_number_of ["token"] (SpC (Mir (A := Wd) (fun x => m_number_of x) (fun x => [.v (cS x)]) (fun x => []) (fun x t => .v ((cO cI) t)) (fun x t => []))) := by
  refine fn_d (k := 0) T.F_number_of sc_number_of (by rintro _ _ _ ⟨x, t, rfl, _⟩; rfl) (by decide) fun cdv A outer s H E ds ω Pr hr hR => ?_
  obtain ⟨x_token, t, rfl, rfl, hm, rfl⟩ := hR
  skip
  have nd := sc_number_of.nd
  have hu := hr.units
  change m_number_of x_token = some t at hm
  unfold m_number_of at hm
  change DSs _ _ [some (.v (cS x_token)), none] [] _
  refine dss_if1 (ω1 := []) (dt_bool (dw_or (dt_not (dt_chain de_int (de_lenS T.z_len (de_var (d := .v (cS x_token)) 0)) (de_gint rfl T.g_MOST_DIGITS.choose_spec) c_le c_le)) (fun _ => (dw_or1 (dt_not (dt_val (de_all (bs := List.map (fun (e1 : Nat) => (decide (e1 ∈ ([48, 49, 50, 51, 52, 53, 54, 55, 56, 57] : Wd)))) x_token) rfl T.z_all (de_froz (dn_of (comp_d (cy := cB) [("sign", 1)] (.nm 1) _ (fun z => .v (cS [z])) (fun s2 => []) _ _ _ (compO_map (fun (e1 : Nat) => (decide (e1 ∈ ([48, 49, 50, 51, 52, 53, 54, 55, 56, 57] : Wd)))) x_token) (di_str (de_var (d := .v (cS x_token)) 0)) (Pk.refl _) (blkOk_by (N := ["token", "sign"]) (sc := defScope s_number_of) (own := [("sign", 1)]) (by decide +kernel)) (fun _ _ _ _ _ => pg_name (i := 1) nd rfl (by first | exact Or.inl rfl | exact Or.inr rfl)) (by intro i hi; revert i hi; decide) (fun _ => rfl) (fun _ _ _ _ hb _ _ _ _ _ => by cases (some_i hb); exact dts_nil) (fun e1 s2 _ hx _ hb _ _ _ _ _ => by
          have hm := hb
          have hq := some_i hm
          subst hq
          exact (de_c (de_var (d := .v (cS [e1])) 1) (de_gstr ([48, 49, 50, 51, 52, 53, 54, 55, 56, 57] : Wd) rfl T.g_DIGITS.choose_spec) c_inS)))))))))) (fun _ => rfl))) (fun hk => ?_) (fun hk => ?_)
  · have hm := cnd_t hk hm
    have hq := some_i hm
    subst hq
    exact dss_ret (ω1 := []) de_non (by first | exact ⟨rfl, rfl⟩ | exact ⟨⟨rfl, rfl⟩, fun z => z⟩ | exact ⟨⟨⟨rfl, rfl⟩, fun z => z⟩, fun z => z⟩ | exact ⟨⟨⟨⟨rfl, rfl⟩, fun z => z⟩, fun z => z⟩, fun z => z⟩)
  · have hm := cnd_f hk hm
    obtain ⟨b4, hb4, hm⟩ := bnd hm
    obtain ⟨y7, hy7, hm⟩ := bnd hm
    have hq := some_i hm
    subst hq
    exact dss_ret (ω1 := []) (de_if (d := .v ((cO cI) y7)) (ω2 := []) (dt_bool (dw_is (dw_or (dt_c (de_lenS T.z_len (de_var (d := .v (cS x_token)) 0)) de_int c_eqI) (fun hk5 => by
        have hm := cnd_f hk5 hb4
        obtain ⟨z3, hz3, hm⟩ := bnd hm
        have hq := some_i hm
        subst hq
        exact (dw_or1 (dt_c (de_ixS (de_var (d := .v (cS x_token)) 0) de_int hz3) (de_str ([48] : Wd)) c_neS))) (fun _ => rfl)) (or_val hb4))) (fun hk => by
        have hm := cnd_t hk hy7
        obtain ⟨x6, hx6, hm⟩ := bnd hm
        have hq := some_i hm
        subst hq
        exact (de_intS T.z_int (de_var (d := .v (cS x_token)) 0) hx6)) (fun hk => by
        have hm := cnd_f hk hy7
  
        have hq := some_i hm
        subst hq
        exact de_non)) (by first | exact ⟨rfl, rfl⟩ | exact ⟨⟨rfl, rfl⟩, fun z => z⟩ | exact ⟨⟨⟨rfl, rfl⟩, fun z => z⟩, fun z => z⟩ | exact ⟨⟨⟨⟨rfl, rfl⟩, fun z => z⟩, fun z => z⟩, fun z => z⟩)
end
end K44
end

section
set_option Elab.async false
set_option linter.all false
set_option maxRecDepth 100000
set_option maxHeartbeats 4000000
namespace K44
open PySem L2 Q TL
section
variable {P : Program} {w : World} {K : PySem.W.Frag} {mg : Str → Option Value} {base : Heap}
theorem ok_word_of (T : Txt P K mg) : FnOk P w K mg base CX0 2 T.f_word_of T.d_word_of ["token"] (SpC (Mir (A := Wd) (fun x => m_word_of x) (fun x => [.v (cS x)]) (fun x => []) (fun x t => .v ((cO cS) t)) (fun x t => []))) := by
  refine fn_d (k := 1) T.F_word_of sc_word_of (by rintro _ _ _ ⟨x, t, rfl, _⟩; rfl) (by decide) fun cdv A outer s H E ds ω Pr hr hR => ?_
  obtain ⟨x_token, t, rfl, rfl, hm, rfl⟩ := hR
  skip
  have nd := sc_word_of.nd
  have hu := hr.units
  change m_word_of x_token = some t at hm
  unfold m_word_of at hm
  change DSs _ _ [some (.v (cS x_token))] [] _
  refine dss_if1 (ω1 := []) (dt_c (de_var (d := .v (cS x_token)) 0) (de_gstr ([45] : Wd) rfl T.g_NOTHING.choose_spec) c_eqS) (fun hk => ?_) (fun hk => ?_)
  · have hm := cnd_t hk hm
    have hq := some_i hm
    subst hq
    exact dss_ret (ω1 := []) (de_str ([] : Wd)) (by first | exact ⟨rfl, rfl⟩ | exact ⟨⟨rfl, rfl⟩, fun z => z⟩ | exact ⟨⟨⟨rfl, rfl⟩, fun z => z⟩, fun z => z⟩ | exact ⟨⟨⟨⟨rfl, rfl⟩, fun z => z⟩, fun z => z⟩, fun z => z⟩)
  · have hm := cnd_f hk hm
    obtain ⟨r1, hr1, hm⟩ := bnd hm
    obtain ⟨y2, hy2, hm⟩ := bnd hm
    have hq := some_i hm
    subst hq
    exact dss_ret (ω1 := []) (de_if (d := .v ((cO cS) y2)) (ω2 := []) (dt_val (de_call (d := .v (cB r1)) (ωp := []) (ωp' := []) (ωr := []) (ω2 := []) (ok_is_word T) (hr.mono (by decide)) T.m_is_word T.F_is_word.kp T.b_is_word (da_cons (de_var (d := .v (cS x_token)) 0) da_nil) ⟨(cS x_token), r1, rfl, rfl, hr1, rfl⟩ (fun _ _ h => h) [] [])) (fun hk => by
        have hm := cnd_t hk hy2
  
        have hq := some_i hm
        subst hq
        exact (de_var (d := .v (cS x_token)) 0)) (fun hk => by
        have hm := cnd_f hk hy2
  
        have hq := some_i hm
        subst hq
        exact de_non)) (by first | exact ⟨rfl, rfl⟩ | exact ⟨⟨rfl, rfl⟩, fun z => z⟩ | exact ⟨⟨⟨rfl, rfl⟩, fun z => z⟩, fun z => z⟩ | exact ⟨⟨⟨⟨rfl, rfl⟩, fun z => z⟩, fun z => z⟩, fun z => z⟩)
end
end K44
end

section
set_option Elab.async false
set_option linter.all false
set_option maxRecDepth 100000
set_option maxHeartbeats 4000000
namespace K44
open PySem L2 Q TL
section
variable {P : Program} {w : World} {K : PySem.W.Frag} {mg : Str → Option Value} {base : Heap}
theorem ok_pair_of (T : Txt P K mg) : FnOk P w K mg base CX0 3 T.f_pair_of T.d_pair_of ["tokens", "many"] (SpC (Mir (A := (List Wd) × Int) (fun x => m_pair_of x.1 x.2) (fun x => [.v ((cL cS) x.1), .v (cI x.2)]) (fun x => []) (fun x t => .v ((cO cPW) t)) (fun x t => []))) := by
  refine fn_d (k := 2) T.F_pair_of sc_pair_of (by rintro _ _ _ ⟨x, t, rfl, _⟩; rfl) (by decide) fun cdv A outer s H E ds ω Pr hr hR => ?_
  obtain ⟨x, t, rfl, rfl, hm, rfl⟩ := hR
  obtain ⟨x_tokens, x_many⟩ := x
  have nd := sc_pair_of.nd
  have hu := hr.units
  change m_pair_of x_tokens x_many = some t at hm
  unfold m_pair_of at hm
  change DSs _ _ [some (.v ((cL cS) x_tokens)), some (.v (cI x_many)), none, none] [] _
  refine dss_if1 (ω1 := []) (dt_c (de_lenLt (c := cS) (xs := x_tokens) T.z_len (de_var (d := .v ((cL cS) x_tokens)) 0) lv) de_int c_neI) (fun hk => ?_) (fun hk => ?_)
  · have hm := cnd_t hk hm
    have hq := some_i hm
    subst hq
    exact dss_ret (ω1 := []) de_non (by first | exact ⟨rfl, rfl⟩ | exact ⟨⟨rfl, rfl⟩, fun z => z⟩ | exact ⟨⟨⟨rfl, rfl⟩, fun z => z⟩, fun z => z⟩ | exact ⟨⟨⟨⟨rfl, rfl⟩, fun z => z⟩, fun z => z⟩, fun z => z⟩)
  · have hm := cnd_f hk hm
    obtain ⟨x1, hx1, hm⟩ := bnd hm
    obtain ⟨r2, hr2, hm⟩ := bnd hm
    obtain ⟨x3, hx3, hm⟩ := bnd hm
    obtain ⟨r4, hr4, hm⟩ := bnd hm
    refine dss_par (d1 := .v ((cO cI) r2)) (d2 := .v ((cO cS) r4)) (ω1 := []) 2 3 (da_cons (de_call (d := .v ((cO cI) r2)) (ωp := []) (ωp' := []) (ωr := []) (ω2 := []) (ok_number_of T) (hr.mono (by decide)) T.m_number_of T.F_number_of.kp T.b_number_of (da_cons (de_ixLt (c := cS) (de_var (d := .v ((cL cS) x_tokens)) 0) de_int lv hx1) da_nil) ⟨x1, r2, rfl, rfl, hr2, rfl⟩ (fun _ _ h => h) [] []) (da_cons (de_call (d := .v ((cO cS) r4)) (ωp := []) (ωp' := []) (ωr := []) (ω2 := []) (ok_word_of T) (hr.mono (by decide)) T.m_word_of T.F_word_of.kp T.b_word_of (da_cons (de_ixLt (c := cS) (de_var (d := .v ((cL cS) x_tokens)) 0) de_int lv hx3) da_nil) ⟨x3, r4, rfl, rfl, hr4, rfl⟩ (fun _ _ h => h) [] []) da_nil)) ?_
    change DSs _ _ [some (.v ((cL cS) x_tokens)), some (.v (cI x_many)), some (.v ((cO cI) r2)), some (.v ((cO cS) r4))] _ _
    obtain ⟨b8, hb8, hm⟩ := bnd hm
    obtain ⟨y12, hy12, hm⟩ := bnd hm
    have hq := some_i hm
    subst hq
    exact dss_ret (ω1 := []) (de_if (d := .v ((cO cPW) y12)) (ω2 := []) (dt_bool (dw_is (dw_or (dt_c (de_var (d := .v ((cO cI) r2)) 2) de_non (c_isNo (isN_cO (fun _ => rfl) r2))) (fun hk9 => by
        have hm := cnd_f hk9 hb8
        obtain ⟨b6, hb6, hm⟩ := bnd hm
        have hq := some_i hm
        subst hq
        exact (dw_is (dw_or (dt_c (de_var (d := .v ((cO cS) r4)) 3) de_non (c_isNo (isN_cO (fun _ => rfl) r4))) (fun hk7 => by
        have hm := cnd_f hk7 hb6
        obtain ⟨x5, hx5, hm⟩ := bnd hm
        have hq := some_i hm
        subst hq
        exact (dw_or1 (dt_c (de_get (de_var (d := .v ((cO cI) r2)) 2) hx5) (de_var (d := .v (cI x_many)) 1) c_ge))) (fun _ => rfl)) (or_val hb6))) (fun _ => rfl)) (or_val hb8))) (fun hk => by
        have hm := cnd_t hk hy12
  
        have hq := some_i hm
        subst hq
        exact de_non) (fun hk => by
        have hm := cnd_f hk hy12
        obtain ⟨x10, hx10, hm⟩ := bnd hm
        obtain ⟨x11, hx11, hm⟩ := bnd hm
        have hq := some_i hm
        subst hq
        exact (de_tup (ps := [cI x10, cS x11]) (da_cons (de_get (de_var (d := .v ((cO cI) r2)) 2) hx10) (da_cons (de_get (de_var (d := .v ((cO cS) r4)) 3) hx11) da_nil))))) (by first | exact ⟨rfl, rfl⟩ | exact ⟨⟨rfl, rfl⟩, fun z => z⟩ | exact ⟨⟨⟨rfl, rfl⟩, fun z => z⟩, fun z => z⟩ | exact ⟨⟨⟨⟨rfl, rfl⟩, fun z => z⟩, fun z => z⟩, fun z => z⟩)
end
end K44
end

section
set_option Elab.async false
set_option linter.all false
set_option maxRecDepth 100000
set_option maxHeartbeats 4000000
namespace K44
open PySem L2 Q TL
section
variable {P : Program} {w : World} {K : PySem.W.Frag} {mg : Str → Option Value} {base : Heap}
theorem ok_edge_of (T : Txt P K mg) : FnOk P w K mg base CX0 3 T.f_edge_of T.d_edge_of ["tokens", "many"] (SpC (Mir (A := (List Wd) × Int) (fun x => m_edge_of x.1 x.2) (fun x => [.v ((cL cS) x.1), .v (cI x.2)]) (fun x => []) (fun x t => .v ((cO cEW) t)) (fun x t => []))) := by
  refine fn_d (k := 2) T.F_edge_of sc_edge_of (by rintro _ _ _ ⟨x, t, rfl, _⟩; rfl) (by decide) fun cdv A outer s H E ds ω Pr hr hR => ?_
  obtain ⟨x, t, rfl, rfl, hm, rfl⟩ := hR
  obtain ⟨x_tokens, x_many⟩ := x
  have nd := sc_edge_of.nd
  have hu := hr.units
  change m_edge_of x_tokens x_many = some t at hm
  unfold m_edge_of at hm
  change DSs _ _ [some (.v ((cL cS) x_tokens)), some (.v (cI x_many)), none, none, none] [] _
  obtain ⟨b6, hb6, hm⟩ := bnd hm
  refine dss_if1 (ω1 := []) (dt_bool (dw_is (dw_or (dt_c (de_lenLt (c := cS) (xs := x_tokens) T.z_len (de_var (d := .v ((cL cS) x_tokens)) 0) lv) de_int c_neI) (fun hk7 => by
        have hm := cnd_f hk7 hb6
        obtain ⟨x1, hx1, hm⟩ := bnd hm
        obtain ⟨b4, hb4, hm⟩ := bnd hm
        have hq := some_i hm
        subst hq
        exact (dw_is (dw_or (dt_c (de_lenS T.z_len (de_ixLt (c := cS) (de_var (d := .v ((cL cS) x_tokens)) 0) de_int lv hx1)) de_int c_neI) (fun hk5 => by
        have hm := cnd_f hk5 hb4
        obtain ⟨x2, hx2, hm⟩ := bnd hm
        obtain ⟨z3, hz3, hm⟩ := bnd hm
        have hq := some_i hm
        subst hq
        exact (dw_or1 (dt_c (de_ixLt (c := cS) (de_var (d := .v ((cL cS) x_tokens)) 0) de_int lv hx2) (de_gstr ([97, 98, 99, 100, 101, 102, 103, 104, 105, 106, 107, 108, 109, 110, 111, 112, 113, 114, 115, 116, 117, 118, 119, 120, 121, 122] : Wd) rfl T.g_LETTERS.choose_spec) (c_ninW hz3)))) (fun _ => rfl)) (or_val hb4))) (fun _ => rfl)) (or_val hb6))) (fun hk => ?_) (fun hk => ?_)
  · have hm := cnd_t hk hm
    have hq := some_i hm
    subst hq
    exact dss_ret (ω1 := []) de_non (by first | exact ⟨rfl, rfl⟩ | exact ⟨⟨rfl, rfl⟩, fun z => z⟩ | exact ⟨⟨⟨rfl, rfl⟩, fun z => z⟩, fun z => z⟩ | exact ⟨⟨⟨⟨rfl, rfl⟩, fun z => z⟩, fun z => z⟩, fun z => z⟩)
  · have hm := cnd_f hk hm
    obtain ⟨x8, hx8, hm⟩ := bnd hm
    obtain ⟨r9, hr9, hm⟩ := bnd hm
    obtain ⟨x10, hx10, hm⟩ := bnd hm
    obtain ⟨r11, hr11, hm⟩ := bnd hm
    obtain ⟨x12, hx12, hm⟩ := bnd hm
    obtain ⟨r13, hr13, hm⟩ := bnd hm
    refine dss_par3 (d1 := .v ((cO cI) r9)) (d2 := .v ((cO cS) r11)) (d3 := .v ((cO cI) r13)) (ω1 := []) 2 3 4 (da_cons (de_call (d := .v ((cO cI) r9)) (ωp := []) (ωp' := []) (ωr := []) (ω2 := []) (ok_number_of T) (hr.mono (by decide)) T.m_number_of T.F_number_of.kp T.b_number_of (da_cons (de_ixLt (c := cS) (de_var (d := .v ((cL cS) x_tokens)) 0) de_int lv hx8) da_nil) ⟨x8, r9, rfl, rfl, hr9, rfl⟩ (fun _ _ h => h) [] []) (da_cons (de_call (d := .v ((cO cS) r11)) (ωp := []) (ωp' := []) (ωr := []) (ω2 := []) (ok_word_of T) (hr.mono (by decide)) T.m_word_of T.F_word_of.kp T.b_word_of (da_cons (de_ixLt (c := cS) (de_var (d := .v ((cL cS) x_tokens)) 0) de_int lv hx10) da_nil) ⟨x10, r11, rfl, rfl, hr11, rfl⟩ (fun _ _ h => h) [] []) (da_cons (de_call (d := .v ((cO cI) r13)) (ωp := []) (ωp' := []) (ωr := []) (ω2 := []) (ok_number_of T) (hr.mono (by decide)) T.m_number_of T.F_number_of.kp T.b_number_of (da_cons (de_ixLt (c := cS) (de_var (d := .v ((cL cS) x_tokens)) 0) de_int lv hx12) da_nil) ⟨x12, r13, rfl, rfl, hr13, rfl⟩ (fun _ _ h => h) [] []) da_nil))) ?_
    change DSs _ _ [some (.v ((cL cS) x_tokens)), some (.v (cI x_many)), some (.v ((cO cI) r9)), some (.v ((cO cS) r11)), some (.v ((cO cI) r13))] _ _
    obtain ⟨b22, hb22, hm⟩ := bnd hm
    refine dss_if1 (ω1 := []) (dt_bool (dw_is (dw_or (dt_c (de_var (d := .v ((cO cI) r9)) 2) de_non (c_isNo (isN_cO (fun _ => rfl) r9))) (fun hk23 => by
        have hm := cnd_f hk23 hb22
        obtain ⟨b20, hb20, hm⟩ := bnd hm
        have hq := some_i hm
        subst hq
        exact (dw_is (dw_or (dt_c (de_var (d := .v ((cO cS) r11)) 3) de_non (c_isNo (isN_cO (fun _ => rfl) r11))) (fun hk21 => by
        have hm := cnd_f hk21 hb20
        obtain ⟨b18, hb18, hm⟩ := bnd hm
        have hq := some_i hm
        subst hq
        exact (dw_is (dw_or (dt_c (de_var (d := .v ((cO cI) r13)) 4) de_non (c_isNo (isN_cO (fun _ => rfl) r13))) (fun hk19 => by
        have hm := cnd_f hk19 hb18
        obtain ⟨x14, hx14, hm⟩ := bnd hm
        obtain ⟨b16, hb16, hm⟩ := bnd hm
        have hq := some_i hm
        subst hq
        exact (dw_is (dw_or (dt_c (de_get (de_var (d := .v ((cO cI) r9)) 2) hx14) (de_var (d := .v (cI x_many)) 1) c_ge) (fun hk17 => by
        have hm := cnd_f hk17 hb16
        obtain ⟨x15, hx15, hm⟩ := bnd hm
        have hq := some_i hm
        subst hq
        exact (dw_or1 (dt_c (de_get (de_var (d := .v ((cO cI) r13)) 4) hx15) (de_var (d := .v (cI x_many)) 1) c_ge))) (fun _ => rfl)) (or_val hb16))) (fun _ => rfl)) (or_val hb18))) (fun _ => rfl)) (or_val hb20))) (fun _ => rfl)) (or_val hb22))) (fun hk => ?_) (fun hk => ?_)
    · have hm := cnd_t hk hm
      have hq := some_i hm
      subst hq
      exact dss_ret (ω1 := []) de_non (by first | exact ⟨rfl, rfl⟩ | exact ⟨⟨rfl, rfl⟩, fun z => z⟩ | exact ⟨⟨⟨rfl, rfl⟩, fun z => z⟩, fun z => z⟩ | exact ⟨⟨⟨⟨rfl, rfl⟩, fun z => z⟩, fun z => z⟩, fun z => z⟩)
    · have hm := cnd_f hk hm
      obtain ⟨x24, hx24, hm⟩ := bnd hm
      obtain ⟨x25, hx25, hm⟩ := bnd hm
      obtain ⟨x26, hx26, hm⟩ := bnd hm
      obtain ⟨x27, hx27, hm⟩ := bnd hm
      have hq := some_i hm
      subst hq
      exact dss_ret (ω1 := []) (de_tup (ps := [cI x24, cS x25, cS x26, cI x27]) (da_cons (de_get (de_var (d := .v ((cO cI) r9)) 2) hx24) (da_cons (de_ixLt (c := cS) (de_var (d := .v ((cL cS) x_tokens)) 0) de_int lv hx25) (da_cons (de_get (de_var (d := .v ((cO cS) r11)) 3) hx26) (da_cons (de_get (de_var (d := .v ((cO cI) r13)) 4) hx27) da_nil))))) (by first | exact ⟨rfl, rfl⟩ | exact ⟨⟨rfl, rfl⟩, fun z => z⟩ | exact ⟨⟨⟨rfl, rfl⟩, fun z => z⟩, fun z => z⟩ | exact ⟨⟨⟨⟨rfl, rfl⟩, fun z => z⟩, fun z => z⟩, fun z => z⟩)
end
end K44
end

section
set_option Elab.async false
set_option linter.all false
set_option maxRecDepth 100000
set_option maxHeartbeats 4000000
namespace K44
open PySem L2 Q TL
section
variable {P : Program} {w : World} {K : PySem.W.Frag} {mg : Str → Option Value} {base : Heap}
theorem ok_read (T : Txt P K mg) : FnOk P w K mg base (L2.CX P w) 4 T.f_read T.d_read ["text"] (SpX T.c_TextError "line" (A := Wd) (fun x => m_read x) (fun x => [.v (cS x)]) (fun y => .v (cP y))) := by
  refine fnX_d (k := 3) T.F_read sc_read (fun _ => rfl) fun cdv A outer s H E x_text t hr hm => ?_
  skip
  skip
  have nd := sc_read.nd
  have hu := hr.units
  change m_read x_text = some t at hm
  unfold m_read at hm
  change DSs _ _ [some (.v (cS x_text)), none, none, none, none, none, none, none, none] [] _
  refine dss_set (d := .v ((cO cI) none)) (ρ' := [some (.v (cS x_text)), some (.v ((cO cI) none)), none, none, none, none, none, none, none]) (ω1 := []) 1 de_non ?_
  refine dss_setA3 2 ([115, 116, 97, 114, 116] : Wd) ([101, 100, 103, 101] : Wd) ([101, 110, 100] : Wd) (fun a1 a2 a3 => ?_)
  change DSs _ _ [some (.v (cS x_text)), some (.v ((cO cI) none)), some (.dA [(kW ([115, 116, 97, 114, 116] : Wd), a1), (kW ([101, 100, 103, 101] : Wd), a2), (kW ([101, 110, 100] : Wd), a3)]), none, none, none, none, none, none] [(a1, .dT (tK [])), (a2, .dT (tK [])), (a3, .dT (tK []))] _
  obtain ⟨hg4, hm⟩ := gd_some hm
  obtain ⟨r61, hr61, hm⟩ := bnd hm
  refine dss_for (.tp [3, 4]) _ (fun x => .v (cPW x)) (fun (s5 : (Option Int) × (List (List Key)) × (List (List Key)) × (List (List Key))) => [some (.v (cS x_text)), some (.v ((cO cI) s5.1)), some (.dA [(kW ([115, 116, 97, 114, 116] : Wd), a1), (kW ([101, 100, 103, 101] : Wd), a2), (kW ([101, 110, 100] : Wd), a3)]), none, none, none, none, none, none]) (fun (s5 : (Option Int) × (List (List Key)) × (List (List Key)) × (List (List Key))) => [(a1, .dT (tK s5.2.1)), (a2, .dT (tK s5.2.2.1)), (a3, .dT (tK s5.2.2.2))]) (RetX T.c_TextError "line" E (fun (y : PyData) => .v (cP y))) _ _ hr61 (di_enm (c := cS) (xs := TL.spl ([10] : Wd) 0 [] x_text) (m := 1) T.z_enumerate (de_froz (dn_split (de_var (d := .v (cS x_text)) 0) (de_str ([10] : Wd)) (by decide) hg4)) de_int) (pg_tup rfl (pgs_cons (pg_name (i := 3) nd rfl (by first | exact Or.inl rfl | exact Or.inr rfl)) (pgs_cons (pg_name (i := 4) nd rfl (by first | exact Or.inl rfl | exact Or.inr rfl)) (pgs_nil)))) ⟨.inr rfl, .inr rfl, .inr rfl, .inl rfl, .inl rfl, .inl rfl, .inl rfl, .inl rfl, .inl rfl, trivial⟩ ⟨[0, 1, 2], rfl, by decide⟩ (fun _ => rfl) ?_ ?_ ?_ ?_ (passes_of rfl)
  · intro e7 s5 k hx hm
    change DSs _ _ [some (.v (cS x_text)), some (.v ((cO cI) s5.1)), some (.dA [(kW ([115, 116, 97, 114, 116] : Wd), a1), (kW ([101, 100, 103, 101] : Wd), a2), (kW ([101, 110, 100] : Wd), a3)]), some (.v (cI e7.1)), some (.v (cS e7.2)), none, none, none, none] [(a1, .dT (tK s5.2.1)), (a2, .dT (tK s5.2.2.1)), (a3, .dT (tK s5.2.2.2))] _
    obtain ⟨hg8, hm⟩ := gd_some hm
    obtain ⟨v11, hv11, hm⟩ := lt_some hm
    refine dss_setLC (d := .v ((cL cS) v11)) (ρ' := [some (.v (cS x_text)), some (.v ((cO cI) s5.1)), some (.dA [(kW ([115, 116, 97, 114, 116] : Wd), a1), (kW ([101, 100, 103, 101] : Wd), a2), (kW ([101, 110, 100] : Wd), a3)]), some (.v (cI e7.1)), some (.v (cS e7.2)), some (.v ((cL cS) v11)), none, none, none]) (ω1 := [(a1, .dT (tK s5.2.1)), (a2, .dT (tK s5.2.2.1)), (a3, .dT (tK s5.2.2.2))]) 5 (comp_d (cy := cS) [("token", 7)] (.nm 7) _ (fun x => .v (cS x)) (fun s10 => [(a1, .dT (tK s5.2.1)), (a2, .dT (tK s5.2.2.1)), (a3, .dT (tK s5.2.2.2))]) _ _ _ (compO_pure (fun (e9 : Wd) => !decide (e9 = ([] : Wd))) (fun (e9 : Wd) => e9) (TL.spl ([32] : Wd) 0 [] e7.2)) (di_listT (c := cS) (de_froz (dn_split (de_var (d := .v (cS e7.2)) 4) (de_str ([32] : Wd)) (by decide) hg8))) (Pk.refl _) (blkOk_by (N := ["text", "many", "found", "line", "signs", "tokens", "one", "token", "word"]) (sc := defScope s_read) (own := [("token", 7)]) (by decide +kernel)) (fun _ _ _ _ _ => pg_name (i := 7) nd rfl (by first | exact Or.inl rfl | exact Or.inr rfl)) (by intro i hi; revert i hi; decide) (fun _ => rfl) (fun e9 s10 _ hx hb _ _ _ _ _ => by
          have hm := hb
          have hq := some_i hm
          subst hq
          exact dts_one (dt_c (de_var (d := .v (cS e9)) 7) (de_str ([] : Wd)) c_neS)) (fun e9 s10 _ hx _ hb _ _ _ _ _ => by
          have hm := hb
          have hq := some_i hm
          subst hq
          exact (de_var (d := .v (cS e9)) 7))) ?_ (by rw [hv11])
    refine dss_if1 (ω1 := [(a1, .dT (tK s5.2.1)), (a2, .dT (tK s5.2.2.1)), (a3, .dT (tK s5.2.2.2))]) (dt_not (dt_truLt (c := cS) (xs := v11) (de_var (d := .v ((cL cS) v11)) 5))) (fun hk => ?_) (fun hk => ?_)
    · have hm := cnd_t hk hm
      have hq := some_i hm
      subst hq
      exact dss_cont (by first | exact ⟨_, _, .inr rfl, ⟨.inr rfl, .inr rfl, .inr rfl, .inl rfl, .inl rfl, .inl rfl, .inl rfl, .inl rfl, .inl rfl, trivial⟩, ⟨[0, 1, 2], rfl, by decide⟩⟩ | exact ⟨⟨_, _, .inr rfl, ⟨.inr rfl, .inr rfl, .inr rfl, .inl rfl, .inl rfl, .inl rfl, .inl rfl, .inl rfl, .inl rfl, trivial⟩, ⟨[0, 1, 2], rfl, by decide⟩⟩, fun z => z⟩ | exact ⟨⟨⟨_, _, .inr rfl, ⟨.inr rfl, .inr rfl, .inr rfl, .inl rfl, .inl rfl, .inl rfl, .inl rfl, .inl rfl, .inl rfl, trivial⟩, ⟨[0, 1, 2], rfl, by decide⟩⟩, fun z => z⟩, fun z => z⟩ | exact ⟨⟨⟨⟨_, _, .inr rfl, ⟨.inr rfl, .inr rfl, .inr rfl, .inl rfl, .inl rfl, .inl rfl, .inl rfl, .inl rfl, .inl rfl, trivial⟩, ⟨[0, 1, 2], rfl, by decide⟩⟩, fun z => z⟩, fun z => z⟩, fun z => z⟩)
    · have hm := cnd_f hk hm
      obtain ⟨j33, hj33, hm⟩ := bnd hm
      refine dss_join (ω1 := [(a1, .dT (tK s5.2.1)), (a2, .dT (tK s5.2.2.1)), (a3, .dT (tK s5.2.2.2))]) [some (.v (cS x_text)), some (.v ((cO cI) j33.1)), some (.dA [(kW ([115, 116, 97, 114, 116] : Wd), a1), (kW ([101, 100, 103, 101] : Wd), a2), (kW ([101, 110, 100] : Wd), a3)]), some (.v (cI e7.1)), some (.v (cS e7.2)), some (.v ((cL cS) v11)), some (.v j33.2), none, none] [(a1, .dT (tK s5.2.1)), (a2, .dT (tK s5.2.2.1)), (a3, .dT (tK s5.2.2.2))] (dt_c (de_var (d := .v ((cO cI) s5.1)) 1) de_non (c_isNo (isN_cO (fun _ => rfl) s5.1))) (fun hk => ?_) (fun hk => ?_) ?_
      · have hm := cnd_t hk hj33
        obtain ⟨x34, hx34, hm⟩ := bnd hm
        obtain ⟨y37, hy37, hm⟩ := bnd hm
        refine dss_set (d := .v ((cO cI) y37)) (ρ' := [some (.v (cS x_text)), some (.v ((cO cI) y37)), some (.dA [(kW ([115, 116, 97, 114, 116] : Wd), a1), (kW ([101, 100, 103, 101] : Wd), a2), (kW ([101, 110, 100] : Wd), a3)]), some (.v (cI e7.1)), some (.v (cS e7.2)), some (.v ((cL cS) v11)), none, none, none]) (ω1 := [(a1, .dT (tK s5.2.1)), (a2, .dT (tK s5.2.2.1)), (a3, .dT (tK s5.2.2.2))]) 1 (de_if (d := .v ((cO cI) y37)) (ω2 := [(a1, .dT (tK s5.2.1)), (a2, .dT (tK s5.2.2.1)), (a3, .dT (tK s5.2.2.2))]) (dt_bool (dw_and (dt_c (de_ixLt (c := cS) (de_var (d := .v ((cL cS) v11)) 5) de_int lv hx34) (de_str ([115, 116, 97, 116, 101, 115] : Wd)) c_eqS) (fun _ => (dw_and1 (dt_c (de_lenLt (c := cS) (xs := v11) T.z_len (de_var (d := .v ((cL cS) v11)) 5) lv) de_int c_eqI))) (fun _ => rfl))) (fun hk => by
        have hm := cnd_t hk hy37
        obtain ⟨x35, hx35, hm⟩ := bnd hm
        obtain ⟨r36, hr36, hm⟩ := bnd hm
        have hq := some_i hm
        subst hq
        exact (de_call (d := .v ((cO cI) r36)) (ωp := []) (ωp' := []) (ωr := [(a1, .dT (tK s5.2.1)), (a2, .dT (tK s5.2.2.1)), (a3, .dT (tK s5.2.2.2))]) (ω2 := [(a1, .dT (tK s5.2.1)), (a2, .dT (tK s5.2.2.1)), (a3, .dT (tK s5.2.2.2))]) (ok_number_of T) (hr.mono (by decide)) T.m_number_of T.F_number_of.kp T.b_number_of (da_cons (de_ixLt (c := cS) (de_var (d := .v ((cL cS) v11)) 5) de_int lv hx35) da_nil) ⟨x35, r36, rfl, rfl, hr36, rfl⟩ (fun _ _ h => h) [0, 1, 2] [0, 1, 2])) (fun hk => by
        have hm := cnd_f hk hy37
  
        have hq := some_i hm
        subst hq
        exact de_non)) ?_
        obtain ⟨v38, hv38, hm⟩ := lt_some hm
        refine dss_set (d := .v v38) (ρ' := [some (.v (cS x_text)), some (.v ((cO cI) y37)), some (.dA [(kW ([115, 116, 97, 114, 116] : Wd), a1), (kW ([101, 100, 103, 101] : Wd), a2), (kW ([101, 110, 100] : Wd), a3)]), some (.v (cI e7.1)), some (.v (cS e7.2)), some (.v ((cL cS) v11)), some (.v v38), none, none]) (ω1 := [(a1, .dT (tK s5.2.1)), (a2, .dT (tK s5.2.2.1)), (a3, .dT (tK s5.2.2.2))]) 6 (de_is (d := .v ((cO cI) y37)) (de_var (d := .v ((cO cI) y37)) 1) (by rw [hv38])) ?_
        have hq := some_i hm
        subst hq
        exact dss_end ⟨.inr rfl, .inr rfl, .inr rfl, .inr rfl, .inr rfl, .inr rfl, .inr rfl, .inl rfl, .inl rfl, trivial⟩ ⟨[0, 1, 2], rfl, by decide⟩
      · have hm := cnd_f hk hj33
        obtain ⟨x39, hx39, hm⟩ := bnd hm
        obtain ⟨j47, hj47, hm⟩ := bnd hm
        refine dss_join (ω1 := [(a1, .dT (tK s5.2.1)), (a2, .dT (tK s5.2.2.1)), (a3, .dT (tK s5.2.2.2))]) [some (.v (cS x_text)), some (.v ((cO cI) s5.1)), some (.dA [(kW ([115, 116, 97, 114, 116] : Wd), a1), (kW ([101, 100, 103, 101] : Wd), a2), (kW ([101, 110, 100] : Wd), a3)]), some (.v (cI e7.1)), some (.v (cS e7.2)), some (.v ((cL cS) v11)), some (.v j47), none, none] [(a1, .dT (tK s5.2.1)), (a2, .dT (tK s5.2.2.1)), (a3, .dT (tK s5.2.2.2))] (dt_c (de_ixLt (c := cS) (de_var (d := .v ((cL cS) v11)) 5) de_int lv hx39) (de_str ([101, 100, 103, 101] : Wd)) c_eqS) (fun hk => ?_) (fun hk => ?_) ?_
        · have hm := cnd_t hk hj47
          obtain ⟨x48, hx48, hm⟩ := bnd hm
          obtain ⟨r49, hr49, hm⟩ := bnd hm
          obtain ⟨v50, hv50, hm⟩ := lt_some hm
          refine dss_set (d := .v v50) (ρ' := [some (.v (cS x_text)), some (.v ((cO cI) s5.1)), some (.dA [(kW ([115, 116, 97, 114, 116] : Wd), a1), (kW ([101, 100, 103, 101] : Wd), a2), (kW ([101, 110, 100] : Wd), a3)]), some (.v (cI e7.1)), some (.v (cS e7.2)), some (.v ((cL cS) v11)), some (.v v50), none, none]) (ω1 := [(a1, .dT (tK s5.2.1)), (a2, .dT (tK s5.2.2.1)), (a3, .dT (tK s5.2.2.2))]) 6 (de_is (d := .v ((cO cEW) r49)) (de_call (d := .v ((cO cEW) r49)) (ωp := []) (ωp' := []) (ωr := [(a1, .dT (tK s5.2.1)), (a2, .dT (tK s5.2.2.1)), (a3, .dT (tK s5.2.2.2))]) (ω2 := [(a1, .dT (tK s5.2.1)), (a2, .dT (tK s5.2.2.1)), (a3, .dT (tK s5.2.2.2))]) (ok_edge_of T) (hr.mono (by decide)) T.m_edge_of T.F_edge_of.kp T.b_edge_of (da_cons (de_froz (dn_sliceLt (c := cS) (xs := v11) (de_var (d := .v ((cL cS) v11)) 5) (do_some de_int) do_none lv)) (da_cons (de_get (de_var (d := .v ((cO cI) s5.1)) 1) hx48) da_nil)) ⟨(cut v11 (some 1) none, x48), r49, rfl, rfl, hr49, rfl⟩ (fun _ _ h => h) [0, 1, 2] [0, 1, 2]) (by rw [hv50])) ?_
          have hq := some_i hm
          subst hq
          exact dss_end ⟨.inr rfl, .inr rfl, .inr rfl, .inr rfl, .inr rfl, .inr rfl, .inr rfl, .inl rfl, .inl rfl, trivial⟩ ⟨[0, 1, 2], rfl, by decide⟩
        · have hm := cnd_f hk hj47
          obtain ⟨x51, hx51, hm⟩ := bnd hm
          obtain ⟨y54, hy54, hm⟩ := bnd hm
          refine dss_set (d := .v y54) (ρ' := [some (.v (cS x_text)), some (.v ((cO cI) s5.1)), some (.dA [(kW ([115, 116, 97, 114, 116] : Wd), a1), (kW ([101, 100, 103, 101] : Wd), a2), (kW ([101, 110, 100] : Wd), a3)]), some (.v (cI e7.1)), some (.v (cS e7.2)), some (.v ((cL cS) v11)), some (.v y54), none, none]) (ω1 := [(a1, .dT (tK s5.2.1)), (a2, .dT (tK s5.2.2.1)), (a3, .dT (tK s5.2.2.2))]) 6 (de_if (d := .v y54) (ω2 := [(a1, .dT (tK s5.2.1)), (a2, .dT (tK s5.2.2.1)), (a3, .dT (tK s5.2.2.2))]) (dt_c (de_ixLt (c := cS) (de_var (d := .v ((cL cS) v11)) 5) de_int lv hx51) (de_tup (ps := [cS ([115, 116, 97, 114, 116] : Wd), cS ([101, 110, 100] : Wd)]) (da_cons (de_str ([115, 116, 97, 114, 116] : Wd)) (da_cons (de_str ([101, 110, 100] : Wd)) da_nil))) (c_inTS (ws := [([115, 116, 97, 114, 116] : Wd), ([101, 110, 100] : Wd)]))) (fun hk => by
        have hm := cnd_t hk hy54
        obtain ⟨x52, hx52, hm⟩ := bnd hm
        obtain ⟨r53, hr53, hm⟩ := bnd hm
        have hq := some_i hm
        subst hq
        exact (de_call (d := .v ((cO cPW) r53)) (ωp := []) (ωp' := []) (ωr := [(a1, .dT (tK s5.2.1)), (a2, .dT (tK s5.2.2.1)), (a3, .dT (tK s5.2.2.2))]) (ω2 := [(a1, .dT (tK s5.2.1)), (a2, .dT (tK s5.2.2.1)), (a3, .dT (tK s5.2.2.2))]) (ok_pair_of T) (hr.mono (by decide)) T.m_pair_of T.F_pair_of.kp T.b_pair_of (da_cons (de_froz (dn_sliceLt (c := cS) (xs := v11) (de_var (d := .v ((cL cS) v11)) 5) (do_some de_int) do_none lv)) (da_cons (de_get (de_var (d := .v ((cO cI) s5.1)) 1) hx52) da_nil)) ⟨(cut v11 (some 1) none, x52), r53, rfl, rfl, hr53, rfl⟩ (fun _ _ h => h) [0, 1, 2] [0, 1, 2])) (fun hk => by
        have hm := cnd_f hk hy54
  
        have hq := some_i hm
        subst hq
        exact de_non)) ?_
          have hq := some_i hm
          subst hq
          exact dss_end ⟨.inr rfl, .inr rfl, .inr rfl, .inr rfl, .inr rfl, .inr rfl, .inr rfl, .inl rfl, .inl rfl, trivial⟩ ⟨[0, 1, 2], rfl, by decide⟩
        have hq := some_i hm
        subst hq
        exact dss_end ⟨.inr rfl, .inr rfl, .inr rfl, .inr rfl, .inr rfl, .inr rfl, .inr rfl, .inl rfl, .inl rfl, trivial⟩ ⟨[0, 1, 2], rfl, by decide⟩
      refine dss_if1 (ω1 := [(a1, .dT (tK s5.2.1)), (a2, .dT (tK s5.2.2.1)), (a3, .dT (tK s5.2.2.2))]) (dt_c (de_var (d := .v j33.2) 6) de_non c_isN) (fun hk => ?_) (fun hk => ?_)
      · have hm := cnd_t hk hm
        have hq := some_i hm
        subst hq
        exact dss_raise (n := e7.1) rfl T.E_TextError hr (takes_of rfl rfl rfl rfl) (de_var (d := .v (cI e7.1)) 3) (by first | exact ⟨rfl, .inr ⟨_, _, rfl⟩⟩ | exact ⟨⟨rfl, .inr ⟨_, _, rfl⟩⟩, fun z => z⟩ | exact ⟨⟨⟨rfl, .inr ⟨_, _, rfl⟩⟩, fun z => z⟩, fun z => z⟩ | exact ⟨⟨⟨⟨rfl, .inr ⟨_, _, rfl⟩⟩, fun z => z⟩, fun z => z⟩, fun z => z⟩)
      · have hm := cnd_f hk hm
        obtain ⟨x55, hx55, hm⟩ := bnd hm
        refine dss_if2 (ω1 := [(a1, .dT (tK s5.2.1)), (a2, .dT (tK s5.2.2.1)), (a3, .dT (tK s5.2.2.2))]) (dt_inA3 hr (de_ixLt (c := cS) (de_var (d := .v ((cL cS) v11)) 5) de_int lv hx55) (de_var (d := .dA [(kW ([115, 116, 97, 114, 116] : Wd), a1), (kW ([101, 100, 103, 101] : Wd), a2), (kW ([101, 110, 100] : Wd), a3)]) 2)) (fun hk => ?_) (fun hk => ?_)
        · have hm := cnd_t hk hm
          obtain ⟨x56, hx56, hm⟩ := bnd hm
          obtain ⟨k57, hk57, hm⟩ := bnd hm
          cases hk : decide (x56 = ([115, 116, 97, 114, 116] : Wd)) with
          | true =>
            have hm := cnd_t hk hm
            obtain ⟨hg58, hm⟩ := gd_some hm
            refine dss_putT (l := a1) (kvs := tK s5.2.1) (ω' := [(a1, .dT (tK (insK s5.2.1 k57))), (a2, .dT (tK s5.2.2.1)), (a3, .dT (tK s5.2.2.2))]) 0 hr de_bl (de_getA (l := a1) hr (de_var (d := .dA [(kW ([115, 116, 97, 114, 116] : Wd), a1), (kW ([101, 100, 103, 101] : Wd), a2), (kW ([101, 110, 100] : Wd), a3)]) 2) (de_ixLt (c := cS) (de_var (d := .v ((cL cS) v11)) 5) de_int lv hx56) (by have e := of_decide_eq_true hk; rw [e]; exact find3_0)) (de_var (d := .v j33.2) 6) hk57 (by rw [List.length_map]; exact hg58) ?_ rfl (by rw [putD_tK]; rfl)
            have hq := some_i hm
            subst hq
            exact dss_nil ⟨_, _, .inl rfl, ⟨.inr rfl, .inr rfl, .inr rfl, .inl rfl, .inl rfl, .inl rfl, .inl rfl, .inl rfl, .inl rfl, trivial⟩, ⟨[0, 1, 2], rfl, by decide⟩⟩
          | false =>
            have hm := cnd_f hk hm
            clear hk
            cases hk : decide (x56 = ([101, 100, 103, 101] : Wd)) with
            | true =>
              have hm := cnd_t hk hm
              obtain ⟨hg59, hm⟩ := gd_some hm
              refine dss_putT (l := a2) (kvs := tK s5.2.2.1) (ω' := [(a1, .dT (tK s5.2.1)), (a2, .dT (tK (insK s5.2.2.1 k57))), (a3, .dT (tK s5.2.2.2))]) 1 hr de_bl (de_getA (l := a2) hr (de_var (d := .dA [(kW ([115, 116, 97, 114, 116] : Wd), a1), (kW ([101, 100, 103, 101] : Wd), a2), (kW ([101, 110, 100] : Wd), a3)]) 2) (de_ixLt (c := cS) (de_var (d := .v ((cL cS) v11)) 5) de_int lv hx56) (by have e := of_decide_eq_true hk; rw [e]; exact (find3_1 (by decide)))) (de_var (d := .v j33.2) 6) hk57 (by rw [List.length_map]; exact hg59) ?_ rfl (by rw [putD_tK]; rfl)
              have hq := some_i hm
              subst hq
              exact dss_nil ⟨_, _, .inl rfl, ⟨.inr rfl, .inr rfl, .inr rfl, .inl rfl, .inl rfl, .inl rfl, .inl rfl, .inl rfl, .inl rfl, trivial⟩, ⟨[0, 1, 2], rfl, by decide⟩⟩
            | false =>
              have hm := cnd_f hk hm
              clear hk
              cases hk : decide (x56 = ([101, 110, 100] : Wd)) with
              | true =>
                have hm := cnd_t hk hm
                obtain ⟨hg60, hm⟩ := gd_some hm
                refine dss_putT (l := a3) (kvs := tK s5.2.2.2) (ω' := [(a1, .dT (tK s5.2.1)), (a2, .dT (tK s5.2.2.1)), (a3, .dT (tK (insK s5.2.2.2 k57)))]) 2 hr de_bl (de_getA (l := a3) hr (de_var (d := .dA [(kW ([115, 116, 97, 114, 116] : Wd), a1), (kW ([101, 100, 103, 101] : Wd), a2), (kW ([101, 110, 100] : Wd), a3)]) 2) (de_ixLt (c := cS) (de_var (d := .v ((cL cS) v11)) 5) de_int lv hx56) (by have e := of_decide_eq_true hk; rw [e]; exact (find3_2 (by decide) (by decide)))) (de_var (d := .v j33.2) 6) hk57 (by rw [List.length_map]; exact hg60) ?_ rfl (by rw [putD_tK]; rfl)
                have hq := some_i hm
                subst hq
                exact dss_nil ⟨_, _, .inl rfl, ⟨.inr rfl, .inr rfl, .inr rfl, .inl rfl, .inl rfl, .inl rfl, .inl rfl, .inl rfl, .inl rfl, trivial⟩, ⟨[0, 1, 2], rfl, by decide⟩⟩
              | false =>
                have hm := cnd_f hk hm
                clear hk
                cases hm
        · have hm := cnd_f hk hm
          have hq := some_i hm
          subst hq
          exact dss_nil ⟨_, _, .inl rfl, ⟨.inr rfl, .inr rfl, .inr rfl, .inl rfl, .inl rfl, .inl rfl, .inl rfl, .inl rfl, .inl rfl, trivial⟩, ⟨[0, 1, 2], rfl, by decide⟩⟩
  · intro s6 hrs6
    subst hrs6
    refine dss_if1 (ω1 := [(a1, .dT (tK s6.2.1)), (a2, .dT (tK s6.2.2.1)), (a3, .dT (tK s6.2.2.2))]) (dt_c (de_var (d := .v ((cO cI) s6.1)) 1) de_non (c_isNo (isN_cO (fun _ => rfl) s6.1))) (fun hk => ?_) (fun hk => ?_)
    · have hm := cnd_t hk hm
      have hq := some_i hm
      subst hq
      exact dss_raise (n := 1) rfl T.E_TextError hr (takes_of rfl rfl rfl rfl) de_int (by first | exact rfl | exact ⟨rfl, fun z => z⟩ | exact ⟨⟨rfl, fun z => z⟩, fun z => z⟩ | exact ⟨⟨⟨rfl, fun z => z⟩, fun z => z⟩, fun z => z⟩)
    · have hm := cnd_f hk hm
      obtain ⟨l65, hl65, hm⟩ := bnd hm
      obtain ⟨hg66, hm⟩ := gd_some hm
      have hq := some_i hm
      subst hq
      exact dss_ret (ω1 := []) (de_drop (de_catTup (ps := [(cO cI) s6.1]) (qs := List.map (cT cP) l65.1) (de_tup (ps := [(cO cI) s6.1]) (da_cons (de_var (d := .v ((cO cI) s6.1)) 1) da_nil)) (de_tupleL (ps := List.map (cT cP) l65.1) T.z_tuple (de_froz (dn_of (comp_d (cy := (cT cP)) [("word", 8)] (.nm 8) _ (fun x => .v (cS x)) (fun s64 => [(a1, .dT (tK s6.2.1)), (a2, .dT (tK s6.2.2.1)), (a3, .dT (tK s6.2.2.2))]) _ _ _ hl65 (di_tupT (c := cS) (de_tup (ps := [cS ([115, 116, 97, 114, 116] : Wd), cS ([101, 100, 103, 101] : Wd), cS ([101, 110, 100] : Wd)]) (da_cons (de_str ([115, 116, 97, 114, 116] : Wd)) (da_cons (de_str ([101, 100, 103, 101] : Wd)) (da_cons (de_str ([101, 110, 100] : Wd)) da_nil))))) (Pk.refl _) (blkOk_by (N := ["text", "many", "found", "line", "signs", "tokens", "one", "token", "word"]) (sc := defScope s_read) (own := [("word", 8)]) (by decide +kernel)) (fun _ _ _ _ _ => pg_name (i := 8) nd rfl (by first | exact Or.inl rfl | exact Or.inr rfl)) (by intro i hi; revert i hi; decide) (fun _ => rfl) (fun _ _ _ _ hb _ _ _ _ _ => by cases (some_i hb); exact dts_nil) (fun e62 s64 _ hx _ hb _ _ _ _ _ => by
          have hm := hb
          obtain ⟨x63, hx63, hm⟩ := bnd hm
          have hq := some_i hm
          subst hq
          exact (de_tupleL (ps := List.map cP x63) T.z_tuple (de_froz (dn_case (c := fun v => .lst (List.map cP v)) hx63 (fun h0 hx => dn_sortedK (l := a1) (ks := s6.2.1) 0 hr (by rfl) hx T.z_sorted (de_getA (l := a1) hr (de_var (d := .dA [(kW ([115, 116, 97, 114, 116] : Wd), a1), (kW ([101, 100, 103, 101] : Wd), a2), (kW ([101, 110, 100] : Wd), a3)]) 2) (de_var (d := .v (cS e62)) 8) (by have e := of_decide_eq_true h0; rw [e]; exact find3_0))) (fun h0 hx => (dn_case (c := fun v => .lst (List.map cP v)) hx (fun h1 hx => dn_sortedK (l := a2) (ks := s6.2.2.1) 1 hr (by rfl) hx T.z_sorted (de_getA (l := a2) hr (de_var (d := .dA [(kW ([115, 116, 97, 114, 116] : Wd), a1), (kW ([101, 100, 103, 101] : Wd), a2), (kW ([101, 110, 100] : Wd), a3)]) 2) (de_var (d := .v (cS e62)) 8) (by have e := of_decide_eq_true h1; rw [e]; exact (find3_1 (by decide))))) (fun h1 hx => (dn_case (c := fun v => .lst (List.map cP v)) hx (fun h2 hx => dn_sortedK (l := a3) (ks := s6.2.2.2) 2 hr (by rfl) hx T.z_sorted (de_getA (l := a3) hr (de_var (d := .dA [(kW ([115, 116, 97, 114, 116] : Wd), a1), (kW ([101, 100, 103, 101] : Wd), a2), (kW ([101, 110, 100] : Wd), a3)]) 2) (de_var (d := .v (cS e62)) 8) (by have e := of_decide_eq_true h2; rw [e]; exact (find3_2 (by decide) (by decide))))) (fun _ hx => by cases hx))))))) lv))))) lv) hg66) ⟨[], rfl, by decide⟩) (by first | exact rfl | exact ⟨rfl, fun z => z⟩ | exact ⟨⟨rfl, fun z => z⟩, fun z => z⟩ | exact ⟨⟨⟨rfl, fun z => z⟩, fun z => z⟩, fun z => z⟩)
  · intro q67 hrq67 o po
    subst hrq67
    have hq := some_i hm
    subst hq
    exact po
  · intro z hz
    subst hz
    cases hm
end
end K44
end

section
set_option Elab.async false
set_option linter.all false
set_option maxRecDepth 100000
set_option maxHeartbeats 4000000
namespace K44
open PySem L2 Q TL
section
variable {P : Program} {w : World} {K : PySem.W.Frag} {mg : Str → Option Value} {base : Heap}
theorem ok_law_due (T : Txt P K mg) : FnOk P w K mg base CX0 3 T.f_law_due T.d_law_due ["text"] (SpC (Mir (A := Wd) (fun x => m_law_due x) (fun x => [.v (cS x)]) (fun x => []) (fun x t => .v (cP t)) (fun x t => []))) := by
  refine fn_d (k := 2) T.F_law_due sc_law_due (by rintro _ _ _ ⟨x, t, rfl, _⟩; rfl) (by decide) fun cdv A outer s H E ds ω Pr hr hR => ?_
  obtain ⟨x_text, t, rfl, rfl, hm, rfl⟩ := hR
  skip
  have nd := sc_law_due.nd
  have hu := hr.units
  change m_law_due x_text = some t at hm
  unfold m_law_due at hm
  change DSs _ _ [some (.v (cS x_text)), none, none, none, none, none, none, none] [] _
  refine dss_parA3 (d := .v ((cO cI) none)) (ω1 := []) 3 4 de_non (fun a1 a2 a3 => ?_)
  change DSs _ _ [some (.v (cS x_text)), none, none, some (.v ((cO cI) none)), some (.lA [a1, a2, a3]), none, none, none] [(a1, .lst (List.map cP ([] : List PyData))), (a2, .lst (List.map cP ([] : List PyData))), (a3, .lst (List.map cP ([] : List PyData)))] _
  obtain ⟨hg4, hm⟩ := gd_some hm
  obtain ⟨v5, hv5, hm⟩ := lt_some hm
  refine dss_set (d := .v ((cL cS) v5)) (ρ' := [some (.v (cS x_text)), some (.v ((cL cS) v5)), none, some (.v ((cO cI) none)), some (.lA [a1, a2, a3]), none, none, none]) (ω1 := [(a1, .lst (List.map cP ([] : List PyData))), (a2, .lst (List.map cP ([] : List PyData))), (a3, .lst (List.map cP ([] : List PyData)))]) 1 (de_is (d := .v ((cL cS) (TL.spl ([10] : Wd) 0 [] x_text))) (de_froz (dn_split (de_var (d := .v (cS x_text)) 0) (de_str ([10] : Wd)) (by decide) hg4)) (by rw [hv5])) ?_
  obtain ⟨hg6, hm⟩ := gd_some hm
  obtain ⟨r32, hr32, hm⟩ := bnd hm
  refine dss_for (.nm 2) _ (fun x => .v (cI x)) (fun (s7 : (Option Int) × (List PyData) × (List PyData) × (List PyData)) => [some (.v (cS x_text)), some (.v ((cL cS) v5)), none, some (.v ((cO cI) s7.1)), some (.lA [a1, a2, a3]), none, none, none]) (fun (s7 : (Option Int) × (List PyData) × (List PyData) × (List PyData)) => [(a1, .lst (List.map cP s7.2.1)), (a2, .lst (List.map cP s7.2.2.1)), (a3, .lst (List.map cP s7.2.2.2))]) (fun (q33 : PyData) o => o = .rt (.v (cP q33)) []) _ _ hr32 (di_range T.z_range (de_lenLt (c := cS) (xs := v5) T.z_len (de_var (d := .v ((cL cS) v5)) 1) lv) hg6.1 hg6.2) (pg_name (i := 2) nd rfl (by first | exact Or.inl rfl | exact Or.inr rfl)) ⟨.inr rfl, .inr rfl, .inl rfl, .inr rfl, .inr rfl, .inl rfl, .inl rfl, .inl rfl, trivial⟩ ⟨[0, 1, 2], rfl, by decide⟩ (fun _ => rfl) ?_ ?_ ?_ ?_ PassesOwn.never
  · intro e9 s7 k hx hm
    change DSs _ _ [some (.v (cS x_text)), some (.v ((cL cS) v5)), some (.v (cI e9)), some (.v ((cO cI) s7.1)), some (.lA [a1, a2, a3]), none, none, none] [(a1, .lst (List.map cP s7.2.1)), (a2, .lst (List.map cP s7.2.2.1)), (a3, .lst (List.map cP s7.2.2.2))] _
    obtain ⟨x10, hx10, hm⟩ := bnd hm
    obtain ⟨hg11, hm⟩ := gd_some hm
    obtain ⟨v14, hv14, hm⟩ := lt_some hm
    refine dss_setLC (d := .v ((cL cS) v14)) (ρ' := [some (.v (cS x_text)), some (.v ((cL cS) v5)), some (.v (cI e9)), some (.v ((cO cI) s7.1)), some (.lA [a1, a2, a3]), some (.v ((cL cS) v14)), none, none]) (ω1 := [(a1, .lst (List.map cP s7.2.1)), (a2, .lst (List.map cP s7.2.2.1)), (a3, .lst (List.map cP s7.2.2.2))]) 5 (comp_d (cy := cS) [("token", 6)] (.nm 6) _ (fun x => .v (cS x)) (fun s13 => [(a1, .lst (List.map cP s7.2.1)), (a2, .lst (List.map cP s7.2.2.1)), (a3, .lst (List.map cP s7.2.2.2))]) _ _ _ (compO_pure (fun (e12 : Wd) => !decide (e12 = ([] : Wd))) (fun (e12 : Wd) => e12) (TL.spl ([32] : Wd) 0 [] x10)) (di_listT (c := cS) (de_froz (dn_split (de_ixLt (c := cS) (de_var (d := .v ((cL cS) v5)) 1) (de_var (d := .v (cI e9)) 2) lv hx10) (de_str ([32] : Wd)) (by decide) hg11))) (Pk.refl _) (blkOk_by (N := ["text", "lines", "k", "many", "found", "tokens", "token", "row"]) (sc := defScope s_law_due) (own := [("token", 6)]) (by decide +kernel)) (fun _ _ _ _ _ => pg_name (i := 6) nd rfl (by first | exact Or.inl rfl | exact Or.inr rfl)) (by intro i hi; revert i hi; decide) (fun _ => rfl) (fun e12 s13 _ hx hb _ _ _ _ _ => by
          have hm := hb
          have hq := some_i hm
          subst hq
          exact dts_one (dt_c (de_var (d := .v (cS e12)) 6) (de_str ([] : Wd)) c_neS)) (fun e12 s13 _ hx _ hb _ _ _ _ _ => by
          have hm := hb
          have hq := some_i hm
          subst hq
          exact (de_var (d := .v (cS e12)) 6))) ?_ (by rw [hv14])
    refine dss_if2 (ω1 := [(a1, .lst (List.map cP s7.2.1)), (a2, .lst (List.map cP s7.2.2.1)), (a3, .lst (List.map cP s7.2.2.2))]) (dt_bool (dw_and (dt_truLt (c := cS) (xs := v14) (de_var (d := .v ((cL cS) v14)) 5)) (fun _ => (dw_and1 (dt_c (de_var (d := .v ((cO cI) s7.1)) 3) de_non (c_isNo (isN_cO (fun _ => rfl) s7.1))))) (fun _ => rfl))) (fun hk => ?_) (fun hk => ?_)
    · have hm := cnd_t hk hm
      obtain ⟨b20, hb20, hm⟩ := bnd hm
      refine dss_if1 (ω1 := [(a1, .lst (List.map cP s7.2.1)), (a2, .lst (List.map cP s7.2.2.1)), (a3, .lst (List.map cP s7.2.2.2))]) (dt_bool (dw_is (dw_or (dt_c (de_lenLt (c := cS) (xs := v14) T.z_len (de_var (d := .v ((cL cS) v14)) 5) lv) de_int c_neI) (fun hk21 => by
        have hm := cnd_f hk21 hb20
        obtain ⟨x15, hx15, hm⟩ := bnd hm
        obtain ⟨b18, hb18, hm⟩ := bnd hm
        have hq := some_i hm
        subst hq
        exact (dw_is (dw_or (dt_c (de_ixLt (c := cS) (de_var (d := .v ((cL cS) v14)) 5) de_int lv hx15) (de_str ([115, 116, 97, 116, 101, 115] : Wd)) c_neS) (fun hk19 => by
        have hm := cnd_f hk19 hb18
        obtain ⟨x16, hx16, hm⟩ := bnd hm
        obtain ⟨r17, hr17, hm⟩ := bnd hm
        have hq := some_i hm
        subst hq
        exact (dw_or1 (dt_c (de_call (d := .v ((cO cI) r17)) (ωp := []) (ωp' := []) (ωr := [(a1, .lst (List.map cP s7.2.1)), (a2, .lst (List.map cP s7.2.2.1)), (a3, .lst (List.map cP s7.2.2.2))]) (ω2 := [(a1, .lst (List.map cP s7.2.1)), (a2, .lst (List.map cP s7.2.2.1)), (a3, .lst (List.map cP s7.2.2.2))]) (ok_law_number T) (hr.mono (by decide)) T.m_law_number T.F_law_number.kp T.b_law_number (da_cons (de_ixLt (c := cS) (de_var (d := .v ((cL cS) v14)) 5) de_int lv hx16) (da_cons de_int da_nil)) ⟨(x16, 10000), r17, rfl, rfl, hr17, rfl⟩ (fun _ _ h => h) [0, 1, 2] [0, 1, 2]) de_non (c_isNo (isN_cO (fun _ => rfl) r17))))) (fun _ => rfl)) (or_val hb18))) (fun _ => rfl)) (or_val hb20))) (fun hk => ?_) (fun hk => ?_)
      · have hm := cnd_t hk hm
        have hq := some_i hm
        subst hq
        exact dss_ret (ω1 := []) (de_drop (de_add (de_var (d := .v (cI e9)) 2) de_int) ⟨[], rfl, by decide⟩) (by first | exact ⟨rfl, .inl ⟨_, _, rfl⟩⟩ | exact ⟨⟨rfl, .inl ⟨_, _, rfl⟩⟩, fun z => z⟩ | exact ⟨⟨⟨rfl, .inl ⟨_, _, rfl⟩⟩, fun z => z⟩, fun z => z⟩ | exact ⟨⟨⟨⟨rfl, .inl ⟨_, _, rfl⟩⟩, fun z => z⟩, fun z => z⟩, fun z => z⟩)
      · have hm := cnd_f hk hm
        obtain ⟨x22, hx22, hm⟩ := bnd hm
        obtain ⟨x23, hx23, hm⟩ := bnd hm
        obtain ⟨v24, hv24, hm⟩ := lt_some hm
        refine dss_set (d := .v ((cO cI) v24)) (ρ' := [some (.v (cS x_text)), some (.v ((cL cS) v5)), some (.v (cI e9)), some (.v ((cO cI) v24)), some (.lA [a1, a2, a3]), some (.v ((cL cS) v14)), none, none]) (ω1 := [(a1, .lst (List.map cP s7.2.1)), (a2, .lst (List.map cP s7.2.2.1)), (a3, .lst (List.map cP s7.2.2.2))]) 3 (de_is (d := .v ((cO cI) (some x23))) (de_intS T.z_int (de_ixLt (c := cS) (de_var (d := .v ((cL cS) v14)) 5) de_int lv hx22) hx23) (by rw [hv24])) ?_
        have hq := some_i hm
        subst hq
        exact dss_nil ⟨_, _, .inl rfl, ⟨.inr rfl, .inr rfl, .inl rfl, .inr rfl, .inr rfl, .inl rfl, .inl rfl, .inl rfl, trivial⟩, ⟨[0, 1, 2], rfl, by decide⟩⟩
    · have hm := cnd_f hk hm
      refine dss_if2 (ω1 := [(a1, .lst (List.map cP s7.2.1)), (a2, .lst (List.map cP s7.2.2.1)), (a3, .lst (List.map cP s7.2.2.2))]) (dt_truLt (c := cS) (xs := v14) (de_var (d := .v ((cL cS) v14)) 5)) (fun hk => ?_) (fun hk => ?_)
      · have hm := cnd_t hk hm
        obtain ⟨x25, hx25, hm⟩ := bnd hm
        obtain ⟨r26, hr26, hm⟩ := bnd hm
        refine dss_set (d := .v r26) (ρ' := [some (.v (cS x_text)), some (.v ((cL cS) v5)), some (.v (cI e9)), some (.v ((cO cI) s7.1)), some (.lA [a1, a2, a3]), some (.v ((cL cS) v14)), none, some (.v r26)]) (ω1 := [(a1, .lst (List.map cP s7.2.1)), (a2, .lst (List.map cP s7.2.2.1)), (a3, .lst (List.map cP s7.2.2.2))]) 7 (de_call (d := .v (cP r26)) (ωp := []) (ωp' := []) (ωr := [(a1, .lst (List.map cP s7.2.1)), (a2, .lst (List.map cP s7.2.2.1)), (a3, .lst (List.map cP s7.2.2.2))]) (ω2 := [(a1, .lst (List.map cP s7.2.1)), (a2, .lst (List.map cP s7.2.2.1)), (a3, .lst (List.map cP s7.2.2.2))]) (ok_law_line T) (hr.mono (by decide)) T.m_law_line T.F_law_line.kp T.b_law_line (da_cons (de_var (d := .v ((cL cS) v14)) 5) (da_cons (de_get (de_var (d := .v ((cO cI) s7.1)) 3) hx25) da_nil)) ⟨(v14, x25), r26, rfl, rfl, hr26, rfl⟩ (fun _ _ h => h) [0, 1, 2] [0, 1, 2]) ?_
        refine dss_if1 (ω1 := [(a1, .lst (List.map cP s7.2.1)), (a2, .lst (List.map cP s7.2.2.1)), (a3, .lst (List.map cP s7.2.2.2))]) (dt_c (de_var (d := .v r26) 7) de_non c_isN) (fun hk => ?_) (fun hk => ?_)
        · have hm := cnd_t hk hm
          have hq := some_i hm
          subst hq
          exact dss_ret (ω1 := []) (de_drop (de_add (de_var (d := .v (cI e9)) 2) de_int) ⟨[], rfl, by decide⟩) (by first | exact ⟨rfl, .inl ⟨_, _, rfl⟩⟩ | exact ⟨⟨rfl, .inl ⟨_, _, rfl⟩⟩, fun z => z⟩ | exact ⟨⟨⟨rfl, .inl ⟨_, _, rfl⟩⟩, fun z => z⟩, fun z => z⟩ | exact ⟨⟨⟨⟨rfl, .inl ⟨_, _, rfl⟩⟩, fun z => z⟩, fun z => z⟩, fun z => z⟩)
        · have hm := cnd_f hk hm
          obtain ⟨x27, hx27, hm⟩ := bnd hm
          obtain ⟨x28, hx28, hm⟩ := bnd hm
          cases hk : decide (x28 = 0) with
          | true =>
            have hm := cnd_t hk hm
            obtain ⟨hg29, hm⟩ := gd_some hm
            refine dss_expr (ω1 := [(a1, .lst (List.map cP (s7.2.1 ++ [r26]))), (a2, .lst (List.map cP s7.2.2.1)), (a3, .lst (List.map cP s7.2.2.2))]) (de_appendT (c := cP) (xs := s7.2.1) (x := r26) (ω' := [(a1, .lst (List.map cP (s7.2.1 ++ [r26]))), (a2, .lst (List.map cP s7.2.2.1)), (a3, .lst (List.map cP s7.2.2.2))]) 0 (de_ixA (l := a1) (de_var (d := .lA [a1, a2, a3]) 4) (de_indexW (xs := ([([115, 116, 97, 114, 116] : Wd), ([101, 100, 103, 101] : Wd), ([101, 110, 100] : Wd)] : List Wd)) (de_froz (dn_lst (ps := List.map cS ([([115, 116, 97, 114, 116] : Wd), ([101, 100, 103, 101] : Wd), ([101, 110, 100] : Wd)] : List Wd)) (da_cons (de_str ([115, 116, 97, 114, 116] : Wd)) (da_cons (de_str ([101, 100, 103, 101] : Wd)) (da_cons (de_str ([101, 110, 100] : Wd)) da_nil))))) (de_ixLt (c := cS) (de_var (d := .v ((cL cS) v14)) 5) de_int lv hx27) lv lv hx28) (by have e := of_decide_eq_true hk; rw [e]; rfl)) (de_var (d := .v r26) 7) hg29) ?_
            have hq := some_i hm
            subst hq
            exact dss_nil ⟨_, _, .inl rfl, ⟨.inr rfl, .inr rfl, .inl rfl, .inr rfl, .inr rfl, .inl rfl, .inl rfl, .inl rfl, trivial⟩, ⟨[0, 1, 2], rfl, by decide⟩⟩
          | false =>
            have hm := cnd_f hk hm
            clear hk
            cases hk : decide (x28 = 1) with
            | true =>
              have hm := cnd_t hk hm
              obtain ⟨hg30, hm⟩ := gd_some hm
              refine dss_expr (ω1 := [(a1, .lst (List.map cP s7.2.1)), (a2, .lst (List.map cP (s7.2.2.1 ++ [r26]))), (a3, .lst (List.map cP s7.2.2.2))]) (de_appendT (c := cP) (xs := s7.2.2.1) (x := r26) (ω' := [(a1, .lst (List.map cP s7.2.1)), (a2, .lst (List.map cP (s7.2.2.1 ++ [r26]))), (a3, .lst (List.map cP s7.2.2.2))]) 1 (de_ixA (l := a2) (de_var (d := .lA [a1, a2, a3]) 4) (de_indexW (xs := ([([115, 116, 97, 114, 116] : Wd), ([101, 100, 103, 101] : Wd), ([101, 110, 100] : Wd)] : List Wd)) (de_froz (dn_lst (ps := List.map cS ([([115, 116, 97, 114, 116] : Wd), ([101, 100, 103, 101] : Wd), ([101, 110, 100] : Wd)] : List Wd)) (da_cons (de_str ([115, 116, 97, 114, 116] : Wd)) (da_cons (de_str ([101, 100, 103, 101] : Wd)) (da_cons (de_str ([101, 110, 100] : Wd)) da_nil))))) (de_ixLt (c := cS) (de_var (d := .v ((cL cS) v14)) 5) de_int lv hx27) lv lv hx28) (by have e := of_decide_eq_true hk; rw [e]; rfl)) (de_var (d := .v r26) 7) hg30) ?_
              have hq := some_i hm
              subst hq
              exact dss_nil ⟨_, _, .inl rfl, ⟨.inr rfl, .inr rfl, .inl rfl, .inr rfl, .inr rfl, .inl rfl, .inl rfl, .inl rfl, trivial⟩, ⟨[0, 1, 2], rfl, by decide⟩⟩
            | false =>
              have hm := cnd_f hk hm
              clear hk
              cases hk : decide (x28 = 2) with
              | true =>
                have hm := cnd_t hk hm
                obtain ⟨hg31, hm⟩ := gd_some hm
                refine dss_expr (ω1 := [(a1, .lst (List.map cP s7.2.1)), (a2, .lst (List.map cP s7.2.2.1)), (a3, .lst (List.map cP (s7.2.2.2 ++ [r26])))]) (de_appendT (c := cP) (xs := s7.2.2.2) (x := r26) (ω' := [(a1, .lst (List.map cP s7.2.1)), (a2, .lst (List.map cP s7.2.2.1)), (a3, .lst (List.map cP (s7.2.2.2 ++ [r26])))]) 2 (de_ixA (l := a3) (de_var (d := .lA [a1, a2, a3]) 4) (de_indexW (xs := ([([115, 116, 97, 114, 116] : Wd), ([101, 100, 103, 101] : Wd), ([101, 110, 100] : Wd)] : List Wd)) (de_froz (dn_lst (ps := List.map cS ([([115, 116, 97, 114, 116] : Wd), ([101, 100, 103, 101] : Wd), ([101, 110, 100] : Wd)] : List Wd)) (da_cons (de_str ([115, 116, 97, 114, 116] : Wd)) (da_cons (de_str ([101, 100, 103, 101] : Wd)) (da_cons (de_str ([101, 110, 100] : Wd)) da_nil))))) (de_ixLt (c := cS) (de_var (d := .v ((cL cS) v14)) 5) de_int lv hx27) lv lv hx28) (by have e := of_decide_eq_true hk; rw [e]; rfl)) (de_var (d := .v r26) 7) hg31) ?_
                have hq := some_i hm
                subst hq
                exact dss_nil ⟨_, _, .inl rfl, ⟨.inr rfl, .inr rfl, .inl rfl, .inr rfl, .inr rfl, .inl rfl, .inl rfl, .inl rfl, trivial⟩, ⟨[0, 1, 2], rfl, by decide⟩⟩
              | false =>
                have hm := cnd_f hk hm
                clear hk
                cases hm
      · have hm := cnd_f hk hm
        have hq := some_i hm
        subst hq
        exact dss_nil ⟨_, _, .inl rfl, ⟨.inr rfl, .inr rfl, .inl rfl, .inr rfl, .inr rfl, .inl rfl, .inl rfl, .inl rfl, trivial⟩, ⟨[0, 1, 2], rfl, by decide⟩⟩
  · intro s8 hrs8
    subst hrs8
    refine dss_frzA3 (ω' := []) 4 [0, 1, 2] rfl rfl (by decide) ?_
    change DSs _ _ [some (.v (cS x_text)), some (.v ((cL cS) v5)), none, some (.v ((cO cI) s8.1)), some (.v ((l3 (cL cP) (cL cP) (cL cP)) s8.2)), none, none, none] _ _
    obtain ⟨y37, hy37, hm⟩ := bnd hm
    have hq := some_i hm
    subst hq
    exact dss_ret (ω1 := []) (de_if (d := .v y37) (ω2 := []) (dt_c (de_var (d := .v ((cO cI) s8.1)) 3) de_non (c_isNo (isN_cO (fun _ => rfl) s8.1))) (fun hk => by
        have hm := cnd_t hk hy37
  
        have hq := some_i hm
        subst hq
        exact de_int) (fun hk => by
        have hm := cnd_f hk hy37
        obtain ⟨r34, hr34, hm⟩ := bnd hm
        obtain ⟨r35, hr35, hm⟩ := bnd hm
        obtain ⟨r36, hr36, hm⟩ := bnd hm
        have hq := some_i hm
        subst hq
        exact (de_tup (ps := [(cO cI) s8.1, (cT cP) r34, (cT cP) r35, (cT cP) r36]) (da_cons (de_var (d := .v ((cO cI) s8.1)) 3) (da_cons (de_call (d := .v ((cT cP) r34)) (ωp := []) (ωp' := []) (ωr := []) (ω2 := []) (ok_law_once_L T) (hr.mono (by decide)) T.m_law_once T.F_law_once.kp T.b_law_once (da_cons (de_ixL (p := (cL cP) s8.2.1) (de_var (d := .v ((l3 (cL cP) (cL cP) (cL cP)) s8.2)) 4) de_int lv rfl) da_nil) ⟨s8.2.1, r34, rfl, rfl, hr34, rfl⟩ (fun _ _ h => h) [] []) (da_cons (de_call (d := .v ((cT cP) r35)) (ωp := []) (ωp' := []) (ωr := []) (ω2 := []) (ok_law_once_L T) (hr.mono (by decide)) T.m_law_once T.F_law_once.kp T.b_law_once (da_cons (de_ixL (p := (cL cP) s8.2.2.1) (de_var (d := .v ((l3 (cL cP) (cL cP) (cL cP)) s8.2)) 4) de_int lv rfl) da_nil) ⟨s8.2.2.1, r35, rfl, rfl, hr35, rfl⟩ (fun _ _ h => h) [] []) (da_cons (de_call (d := .v ((cT cP) r36)) (ωp := []) (ωp' := []) (ωr := []) (ω2 := []) (ok_law_once_L T) (hr.mono (by decide)) T.m_law_once T.F_law_once.kp T.b_law_once (da_cons (de_ixL (p := (cL cP) s8.2.2.2) (de_var (d := .v ((l3 (cL cP) (cL cP) (cL cP)) s8.2)) 4) de_int lv rfl) da_nil) ⟨s8.2.2.2, r36, rfl, rfl, hr36, rfl⟩ (fun _ _ h => h) [] []) da_nil))))))) (by first | exact ⟨rfl, rfl⟩ | exact ⟨⟨rfl, rfl⟩, fun z => z⟩ | exact ⟨⟨⟨rfl, rfl⟩, fun z => z⟩, fun z => z⟩ | exact ⟨⟨⟨⟨rfl, rfl⟩, fun z => z⟩, fun z => z⟩, fun z => z⟩)
  · intro q38 hrq38 o po
    subst hrq38
    have hq := some_i hm
    subst hq
    subst po
    exact ⟨rfl, rfl⟩
  · intro z hz
    subst hz
    cases hm
end
end K44
end

section
set_option Elab.async false
set_option linter.all false
set_option maxRecDepth 100000
set_option maxHeartbeats 4000000
namespace K44
open PySem L2 Q TL
section
variable {P : Program} {w : World} {K : PySem.W.Frag} {mg : Str → Option Value} {base : Heap}
theorem ok_is_integer (T : Txt P K mg) : FnOk P w K mg base CX0 1 T.f_is_integer T.d_is_integer ["value"] (SpC (Mir (A := PyData) (fun x => m_is_integer x) (fun x => [.v x]) (fun x => []) (fun x t => .v (cB t)) (fun x t => []))) := by
  refine fn_d (k := 0) T.F_is_integer sc_is_integer (by rintro _ _ _ ⟨x, t, rfl, _⟩; rfl) (by decide) fun cdv A outer s H E ds ω Pr hr hR => ?_
  obtain ⟨x_value, t, rfl, rfl, hm, rfl⟩ := hR
  skip
  have nd := sc_is_integer.nd
  have hu := hr.units
  change m_is_integer x_value = some t at hm
  unfold m_is_integer at hm
  change DSs _ _ [some (.v x_value)] [] _
  have hq := some_i hm
  subst hq
  exact dss_ret (ω1 := []) (de_and (de_isiInt T.z_isinstance T.z_int (de_var (d := .v x_value) 0)) (fun _ => (de_and1 (de_not (de_isiBool T.z_isinstance T.z_bool (de_var (d := .v x_value) 0)))))) (by first | exact ⟨rfl, rfl⟩ | exact ⟨⟨rfl, rfl⟩, fun z => z⟩ | exact ⟨⟨⟨rfl, rfl⟩, fun z => z⟩, fun z => z⟩ | exact ⟨⟨⟨⟨rfl, rfl⟩, fun z => z⟩, fun z => z⟩, fun z => z⟩)
end
end K44
end

section
set_option Elab.async false
set_option linter.all false
set_option maxRecDepth 100000
set_option maxHeartbeats 4000000
namespace K44
open PySem L2 Q TL
section
variable {P : Program} {w : World} {K : PySem.W.Frag} {mg : Str → Option Value} {base : Heap}
theorem ok_is_ascending (T : Txt P K mg) : FnOk P w K mg base CX0 1 T.f_is_ascending T.d_is_ascending ["values"] (SpC (Mir (A := (List PyData)) (fun x => m_is_ascending x) (fun x => [.v ((cT cP) x)]) (fun x => []) (fun x t => .v (cB t)) (fun x t => []))) := by
  refine fn_d (k := 0) T.F_is_ascending sc_is_ascending (by rintro _ _ _ ⟨x, t, rfl, _⟩; rfl) (by decide) fun cdv A outer s H E ds ω Pr hr hR => ?_
  obtain ⟨x_values, t, rfl, rfl, hm, rfl⟩ := hR
  skip
  have nd := sc_is_ascending.nd
  have hu := hr.units
  change m_is_ascending x_values = some t at hm
  unfold m_is_ascending at hm
  change DSs _ _ [some (.v ((cT cP) x_values)), none, none] [] _
  obtain ⟨l4, hl4, hm⟩ := bnd hm
  have hq := some_i hm
  subst hq
  exact dss_ret (ω1 := []) (de_all (bs := l4.1) rfl T.z_all (de_froz (dn_of (comp_d (cy := cB) [("one", 1), ("other", 2)] (.tp [1, 2]) _ (fun x => .v ((c2 cP cP) x)) (fun s3 => []) _ _ _ hl4 (di_zipT (c1 := cP) (c2' := cP) (xs := x_values) (ys := cut x_values (some 1) none) T.z_zip (de_var (d := .v ((cT cP) x_values)) 0) (de_sliceTt (c := cP) (xs := x_values) (de_var (d := .v ((cT cP) x_values)) 0) (do_some de_int) do_none)) (Pk.refl _) (blkOk_by (N := ["values", "one", "other"]) (sc := defScope s_is_ascending) (own := [("one", 1), ("other", 2)]) (by decide +kernel)) (fun _ _ _ _ _ => pg_tup rfl (pgs_cons (pg_name (i := 1) nd rfl (by first | exact Or.inl rfl | exact Or.inr rfl)) (pgs_cons (pg_name (i := 2) nd rfl (by first | exact Or.inl rfl | exact Or.inr rfl)) (pgs_nil)))) (by intro i hi; revert i hi; decide) (fun _ => rfl) (fun _ _ _ _ hb _ _ _ _ _ => by cases (some_i hb); exact dts_nil) (fun e1 s3 _ hx _ hb _ _ _ _ _ => by
          have hm := hb
          obtain ⟨b2, hb2, hm⟩ := bnd hm
          have hq := some_i hm
          subst hq
          exact (de_c (de_var (d := .v e1.1) 1) (de_var (d := .v e1.2) 2) (c_ltP hu hb2))))))) (by first | exact ⟨rfl, rfl⟩ | exact ⟨⟨rfl, rfl⟩, fun z => z⟩ | exact ⟨⟨⟨rfl, rfl⟩, fun z => z⟩, fun z => z⟩ | exact ⟨⟨⟨⟨rfl, rfl⟩, fun z => z⟩, fun z => z⟩, fun z => z⟩)
end
end K44
end

section
set_option Elab.async false
set_option linter.all false
set_option maxRecDepth 100000
set_option maxHeartbeats 4000000
namespace K44
open PySem L2 Q TL
section
variable {P : Program} {w : World} {K : PySem.W.Frag} {mg : Str → Option Value} {base : Heap}
theorem ok_is_state (T : Txt P K mg) : FnOk P w K mg base CX0 2 T.f_is_state T.d_is_state ["value", "many"] (SpC (Mir (A := PyData × Int) (fun x => m_is_state x.1 x.2) (fun x => [.v x.1, .v (cI x.2)]) (fun x => []) (fun x t => .v (cB t)) (fun x t => []))) := by
  refine fn_d (k := 1) T.F_is_state sc_is_state (by rintro _ _ _ ⟨x, t, rfl, _⟩; rfl) (by decide) fun cdv A outer s H E ds ω Pr hr hR => ?_
  obtain ⟨x, t, rfl, rfl, hm, rfl⟩ := hR
  obtain ⟨x_value, x_many⟩ := x
  have nd := sc_is_state.nd
  have hu := hr.units
  change m_is_state x_value x_many = some t at hm
  unfold m_is_state at hm
  change DSs _ _ [some (.v x_value), some (.v (cI x_many))] [] _
  obtain ⟨r1, hr1, hm⟩ := bnd hm
  obtain ⟨b3, hb3, hm⟩ := bnd hm
  have hq := some_i hm
  subst hq
  exact dss_ret (ω1 := []) (de_is (de_and (de_call (d := .v (cB r1)) (ωp := []) (ωp' := []) (ωr := []) (ω2 := []) (ok_is_integer T) (hr.mono (by decide)) T.m_is_integer T.F_is_integer.kp T.b_is_integer (da_cons (de_var (d := .v x_value) 0) da_nil) ⟨x_value, r1, rfl, rfl, hr1, rfl⟩ (fun _ _ h => h) [] []) (fun hk4 => by
        have hm := cnd_t hk4 hb3
        obtain ⟨x2, hx2, hm⟩ := bnd hm
        have hq := some_i hm
        subst hq
        exact (de_and1 (de_chain de_int (de_asI (de_var (d := .v x_value) 0) hx2) (de_var (d := .v (cI x_many)) 1) c_le c_lt)))) (congrArg (fun b => D.v (cB b)) (and_val hb3))) (by first | exact ⟨rfl, rfl⟩ | exact ⟨⟨rfl, rfl⟩, fun z => z⟩ | exact ⟨⟨⟨rfl, rfl⟩, fun z => z⟩, fun z => z⟩ | exact ⟨⟨⟨⟨rfl, rfl⟩, fun z => z⟩, fun z => z⟩, fun z => z⟩)
end
end K44
end

section
set_option Elab.async false
set_option linter.all false
set_option maxRecDepth 100000
set_option maxHeartbeats 4000000
namespace K44
open PySem L2 Q TL
section
variable {P : Program} {w : World} {K : PySem.W.Frag} {mg : Str → Option Value} {base : Heap}
theorem ok_are_pairs (T : Txt P K mg) : FnOk P w K mg base CX0 3 T.f_are_pairs T.d_are_pairs ["value", "many"] (SpC (Mir (A := PyData × Int) (fun x => m_are_pairs x.1 x.2) (fun x => [.v x.1, .v (cI x.2)]) (fun x => []) (fun x t => .v (cB t)) (fun x t => []))) := by
  refine fn_d (k := 2) T.F_are_pairs sc_are_pairs (by rintro _ _ _ ⟨x, t, rfl, _⟩; rfl) (by decide) fun cdv A outer s H E ds ω Pr hr hR => ?_
  obtain ⟨x, t, rfl, rfl, hm, rfl⟩ := hR
  obtain ⟨x_value, x_many⟩ := x
  have nd := sc_are_pairs.nd
  have hu := hr.units
  change m_are_pairs x_value x_many = some t at hm
  unfold m_are_pairs at hm
  change DSs _ _ [some (.v x_value), some (.v (cI x_many)), none] [] _
  refine dss_if1 (ω1 := []) (dt_not (dt_val (de_isiTuple T.z_isinstance T.z_tuple (de_var (d := .v x_value) 0)))) (fun hk => ?_) (fun hk => ?_)
  · have hm := cnd_t hk hm
    have hq := some_i hm
    subst hq
    exact dss_ret (ω1 := []) de_bl (by first | exact ⟨rfl, rfl⟩ | exact ⟨⟨rfl, rfl⟩, fun z => z⟩ | exact ⟨⟨⟨rfl, rfl⟩, fun z => z⟩, fun z => z⟩ | exact ⟨⟨⟨⟨rfl, rfl⟩, fun z => z⟩, fun z => z⟩, fun z => z⟩)
  · have hm := cnd_f hk hm
    obtain ⟨x1, hx1, hm⟩ := bnd hm
    obtain ⟨r18, hr18, hm⟩ := bnd hm
    refine dss_for (.nm 2) _ (fun x => .v (cP x)) (fun (s2 : Unit) => [some (.v x_value), some (.v (cI x_many)), none]) (fun (s2 : Unit) => []) (fun (q19 : Bool) o => o = .rt (.v (cB q19)) []) _ _ hr18 (di_tupT (c := cP) (de_asT (de_var (d := .v x_value) 0) hx1)) (pg_name (i := 2) nd rfl (by first | exact Or.inl rfl | exact Or.inr rfl)) ⟨.inr rfl, .inr rfl, .inl rfl, trivial⟩ ⟨[], rfl, by decide⟩ (fun _ => rfl) ?_ ?_ ?_ ?_ PassesOwn.never
    · intro e4 s2 k hx hm
      change DSs _ _ [some (.v x_value), some (.v (cI x_many)), some (.v e4)] [] _
      obtain ⟨b16, hb16, hm⟩ := bnd hm
      refine dss_if1 (ω1 := []) (dt_bool (dw_is (dw_or (dt_not (dt_val (de_isiTuple T.z_isinstance T.z_tuple (de_var (d := .v e4) 2)))) (fun hk17 => by
        have hm := cnd_f hk17 hb16
        obtain ⟨x5, hx5, hm⟩ := bnd hm
        obtain ⟨b14, hb14, hm⟩ := bnd hm
        have hq := some_i hm
        subst hq
        exact (dw_is (dw_or (dt_c (de_lenTt (c := cP) (xs := x5) T.z_len (de_asT (de_var (d := .v e4) 2) hx5)) de_int c_neI) (fun hk15 => by
        have hm := cnd_f hk15 hb14
        obtain ⟨x6, hx6, hm⟩ := bnd hm
        obtain ⟨x7, hx7, hm⟩ := bnd hm
        obtain ⟨r8, hr8, hm⟩ := bnd hm
        obtain ⟨b12, hb12, hm⟩ := bnd hm
        have hq := some_i hm
        subst hq
        exact (dw_is (dw_or (dt_not (dt_val (de_call (d := .v (cB r8)) (ωp := []) (ωp' := []) (ωr := []) (ω2 := []) (ok_is_state T) (hr.mono (by decide)) T.m_is_state T.F_is_state.kp T.b_is_state (da_cons (de_ixTt (c := cP) (de_asT (de_var (d := .v e4) 2) hx6) de_int hx7) (da_cons (de_var (d := .v (cI x_many)) 1) da_nil)) ⟨(x7, x_many), r8, rfl, rfl, hr8, rfl⟩ (fun _ _ h => h) [] []))) (fun hk13 => by
        have hm := cnd_f hk13 hb12
        obtain ⟨x9, hx9, hm⟩ := bnd hm
        obtain ⟨x10, hx10, hm⟩ := bnd hm
        obtain ⟨r11, hr11, hm⟩ := bnd hm
        have hq := some_i hm
        subst hq
        exact (dw_or1 (dt_not (dt_val (de_call (d := .v (cB r11)) (ωp := []) (ωp' := []) (ωr := []) (ω2 := []) (ok_is_word T) (hr.mono (by decide)) T.m_is_word T.F_is_word.kp T.b_is_word (da_cons (de_ixTt (c := cP) (de_asT (de_var (d := .v e4) 2) hx9) de_int hx10) da_nil) ⟨x10, r11, rfl, rfl, hr11, rfl⟩ (fun _ _ h => h) [] []))))) (fun _ => rfl)) (or_val hb12))) (fun _ => rfl)) (or_val hb14))) (fun _ => rfl)) (or_val hb16))) (fun hk => ?_) (fun hk => ?_)
      · have hm := cnd_t hk hm
        have hq := some_i hm
        subst hq
        exact dss_ret (ω1 := []) de_bl (by first | exact ⟨rfl, .inl ⟨_, _, rfl⟩⟩ | exact ⟨⟨rfl, .inl ⟨_, _, rfl⟩⟩, fun z => z⟩ | exact ⟨⟨⟨rfl, .inl ⟨_, _, rfl⟩⟩, fun z => z⟩, fun z => z⟩ | exact ⟨⟨⟨⟨rfl, .inl ⟨_, _, rfl⟩⟩, fun z => z⟩, fun z => z⟩, fun z => z⟩)
      · have hm := cnd_f hk hm
        have hq := some_i hm
        subst hq
        exact dss_nil ⟨_, _, .inl rfl, ⟨.inr rfl, .inr rfl, .inl rfl, trivial⟩, ⟨[], rfl, by decide⟩⟩
    · intro s3 hrs3
      subst hrs3
      obtain ⟨x20, hx20, hm⟩ := bnd hm
      obtain ⟨r21, hr21, hm⟩ := bnd hm
      have hq := some_i hm
      subst hq
      exact dss_ret (ω1 := []) (de_call (d := .v (cB r21)) (ωp := []) (ωp' := []) (ωr := []) (ω2 := []) (ok_is_ascending T) (hr.mono (by decide)) T.m_is_ascending T.F_is_ascending.kp T.b_is_ascending (da_cons (de_asT (de_var (d := .v x_value) 0) hx20) da_nil) ⟨x20, r21, rfl, rfl, hr21, rfl⟩ (fun _ _ h => h) [] []) (by first | exact ⟨rfl, rfl⟩ | exact ⟨⟨rfl, rfl⟩, fun z => z⟩ | exact ⟨⟨⟨rfl, rfl⟩, fun z => z⟩, fun z => z⟩ | exact ⟨⟨⟨⟨rfl, rfl⟩, fun z => z⟩, fun z => z⟩, fun z => z⟩)
    · intro q22 hrq22 o po
      subst hrq22
      have hq := some_i hm
      subst hq
      subst po
      exact ⟨rfl, rfl⟩
    · intro z hz
      subst hz
      cases hm
end
end K44
end

section
set_option Elab.async false
set_option linter.all false
set_option maxRecDepth 100000
set_option maxHeartbeats 4000000
namespace K44
open PySem L2 Q TL
section
variable {P : Program} {w : World} {K : PySem.W.Frag} {mg : Str → Option Value} {base : Heap}
theorem ok_are_edges (T : Txt P K mg) : FnOk P w K mg base CX0 3 T.f_are_edges T.d_are_edges ["value", "many"] (SpC (Mir (A := PyData × Int) (fun x => m_are_edges x.1 x.2) (fun x => [.v x.1, .v (cI x.2)]) (fun x => []) (fun x t => .v (cB t)) (fun x t => []))) := by
  refine fn_d (k := 2) T.F_are_edges sc_are_edges (by rintro _ _ _ ⟨x, t, rfl, _⟩; rfl) (by decide) fun cdv A outer s H E ds ω Pr hr hR => ?_
  obtain ⟨x, t, rfl, rfl, hm, rfl⟩ := hR
  obtain ⟨x_value, x_many⟩ := x
  have nd := sc_are_edges.nd
  have hu := hr.units
  change m_are_edges x_value x_many = some t at hm
  unfold m_are_edges at hm
  change DSs _ _ [some (.v x_value), some (.v (cI x_many)), none] [] _
  refine dss_if1 (ω1 := []) (dt_not (dt_val (de_isiTuple T.z_isinstance T.z_tuple (de_var (d := .v x_value) 0)))) (fun hk => ?_) (fun hk => ?_)
  · have hm := cnd_t hk hm
    have hq := some_i hm
    subst hq
    exact dss_ret (ω1 := []) de_bl (by first | exact ⟨rfl, rfl⟩ | exact ⟨⟨rfl, rfl⟩, fun z => z⟩ | exact ⟨⟨⟨rfl, rfl⟩, fun z => z⟩, fun z => z⟩ | exact ⟨⟨⟨⟨rfl, rfl⟩, fun z => z⟩, fun z => z⟩, fun z => z⟩)
  · have hm := cnd_f hk hm
    obtain ⟨x1, hx1, hm⟩ := bnd hm
    obtain ⟨r31, hr31, hm⟩ := bnd hm
    refine dss_for (.nm 2) _ (fun x => .v (cP x)) (fun (s2 : Unit) => [some (.v x_value), some (.v (cI x_many)), none]) (fun (s2 : Unit) => []) (fun (q32 : Bool) o => o = .rt (.v (cB q32)) []) _ _ hr31 (di_tupT (c := cP) (de_asT (de_var (d := .v x_value) 0) hx1)) (pg_name (i := 2) nd rfl (by first | exact Or.inl rfl | exact Or.inr rfl)) ⟨.inr rfl, .inr rfl, .inl rfl, trivial⟩ ⟨[], rfl, by decide⟩ (fun _ => rfl) ?_ ?_ ?_ ?_ PassesOwn.never
    · intro e4 s2 k hx hm
      change DSs _ _ [some (.v x_value), some (.v (cI x_many)), some (.v e4)] [] _
      obtain ⟨b16, hb16, hm⟩ := bnd hm
      refine dss_if1 (ω1 := []) (dt_bool (dw_is (dw_or (dt_not (dt_val (de_isiTuple T.z_isinstance T.z_tuple (de_var (d := .v e4) 2)))) (fun hk17 => by
        have hm := cnd_f hk17 hb16
        obtain ⟨x5, hx5, hm⟩ := bnd hm
        obtain ⟨b14, hb14, hm⟩ := bnd hm
        have hq := some_i hm
        subst hq
        exact (dw_is (dw_or (dt_c (de_lenTt (c := cP) (xs := x5) T.z_len (de_asT (de_var (d := .v e4) 2) hx5)) de_int c_neI) (fun hk15 => by
        have hm := cnd_f hk15 hb14
        obtain ⟨x6, hx6, hm⟩ := bnd hm
        obtain ⟨x7, hx7, hm⟩ := bnd hm
        obtain ⟨r8, hr8, hm⟩ := bnd hm
        obtain ⟨b12, hb12, hm⟩ := bnd hm
        have hq := some_i hm
        subst hq
        exact (dw_is (dw_or (dt_not (dt_val (de_call (d := .v (cB r8)) (ωp := []) (ωp' := []) (ωr := []) (ω2 := []) (ok_is_state T) (hr.mono (by decide)) T.m_is_state T.F_is_state.kp T.b_is_state (da_cons (de_ixTt (c := cP) (de_asT (de_var (d := .v e4) 2) hx6) de_int hx7) (da_cons (de_var (d := .v (cI x_many)) 1) da_nil)) ⟨(x7, x_many), r8, rfl, rfl, hr8, rfl⟩ (fun _ _ h => h) [] []))) (fun hk13 => by
        have hm := cnd_f hk13 hb12
        obtain ⟨x9, hx9, hm⟩ := bnd hm
        obtain ⟨x10, hx10, hm⟩ := bnd hm
        obtain ⟨r11, hr11, hm⟩ := bnd hm
        have hq := some_i hm
        subst hq
        exact (dw_or1 (dt_not (dt_val (de_call (d := .v (cB r11)) (ωp := []) (ωp' := []) (ωr := []) (ω2 := []) (ok_is_state T) (hr.mono (by decide)) T.m_is_state T.F_is_state.kp T.b_is_state (da_cons (de_ixTt (c := cP) (de_asT (de_var (d := .v e4) 2) hx9) de_int hx10) (da_cons (de_var (d := .v (cI x_many)) 1) da_nil)) ⟨(x10, x_many), r11, rfl, rfl, hr11, rfl⟩ (fun _ _ h => h) [] []))))) (fun _ => rfl)) (or_val hb12))) (fun _ => rfl)) (or_val hb14))) (fun _ => rfl)) (or_val hb16))) (fun hk => ?_) (fun hk => ?_)
      · have hm := cnd_t hk hm
        have hq := some_i hm
        subst hq
        exact dss_ret (ω1 := []) de_bl (by first | exact ⟨rfl, .inl ⟨_, _, rfl⟩⟩ | exact ⟨⟨rfl, .inl ⟨_, _, rfl⟩⟩, fun z => z⟩ | exact ⟨⟨⟨rfl, .inl ⟨_, _, rfl⟩⟩, fun z => z⟩, fun z => z⟩ | exact ⟨⟨⟨⟨rfl, .inl ⟨_, _, rfl⟩⟩, fun z => z⟩, fun z => z⟩, fun z => z⟩)
      · have hm := cnd_f hk hm
        obtain ⟨x18, hx18, hm⟩ := bnd hm
        obtain ⟨x19, hx19, hm⟩ := bnd hm
        obtain ⟨r20, hr20, hm⟩ := bnd hm
        obtain ⟨b29, hb29, hm⟩ := bnd hm
        refine dss_if1 (ω1 := []) (dt_bool (dw_is (dw_or (dt_not (dt_val (de_call (d := .v (cB r20)) (ωp := []) (ωp' := []) (ωr := []) (ω2 := []) (ok_is_word T) (hr.mono (by decide)) T.m_is_word T.F_is_word.kp T.b_is_word (da_cons (de_ixTt (c := cP) (de_asT (de_var (d := .v e4) 2) hx18) de_int hx19) da_nil) ⟨x19, r20, rfl, rfl, hr20, rfl⟩ (fun _ _ h => h) [] []))) (fun hk30 => by
        have hm := cnd_f hk30 hb29
        obtain ⟨x21, hx21, hm⟩ := bnd hm
        obtain ⟨x22, hx22, hm⟩ := bnd hm
        obtain ⟨x23, hx23, hm⟩ := bnd hm
        obtain ⟨b27, hb27, hm⟩ := bnd hm
        have hq := some_i hm
        subst hq
        exact (dw_is (dw_or (dt_c (de_lenS T.z_len (de_asS (de_ixTt (c := cP) (de_asT (de_var (d := .v e4) 2) hx21) de_int hx22) hx23)) de_int c_neI) (fun hk28 => by
        have hm := cnd_f hk28 hb27
        obtain ⟨x24, hx24, hm⟩ := bnd hm
        obtain ⟨x25, hx25, hm⟩ := bnd hm
        obtain ⟨r26, hr26, hm⟩ := bnd hm
        have hq := some_i hm
        subst hq
        exact (dw_or1 (dt_not (dt_val (de_call (d := .v (cB r26)) (ωp := []) (ωp' := []) (ωr := []) (ω2 := []) (ok_is_word T) (hr.mono (by decide)) T.m_is_word T.F_is_word.kp T.b_is_word (da_cons (de_ixTt (c := cP) (de_asT (de_var (d := .v e4) 2) hx24) de_int hx25) da_nil) ⟨x25, r26, rfl, rfl, hr26, rfl⟩ (fun _ _ h => h) [] []))))) (fun _ => rfl)) (or_val hb27))) (fun _ => rfl)) (or_val hb29))) (fun hk => ?_) (fun hk => ?_)
        · have hm := cnd_t hk hm
          have hq := some_i hm
          subst hq
          exact dss_ret (ω1 := []) de_bl (by first | exact ⟨rfl, .inl ⟨_, _, rfl⟩⟩ | exact ⟨⟨rfl, .inl ⟨_, _, rfl⟩⟩, fun z => z⟩ | exact ⟨⟨⟨rfl, .inl ⟨_, _, rfl⟩⟩, fun z => z⟩, fun z => z⟩ | exact ⟨⟨⟨⟨rfl, .inl ⟨_, _, rfl⟩⟩, fun z => z⟩, fun z => z⟩, fun z => z⟩)
        · have hm := cnd_f hk hm
          have hq := some_i hm
          subst hq
          exact dss_nil ⟨_, _, .inl rfl, ⟨.inr rfl, .inr rfl, .inl rfl, trivial⟩, ⟨[], rfl, by decide⟩⟩
    · intro s3 hrs3
      subst hrs3
      obtain ⟨x33, hx33, hm⟩ := bnd hm
      obtain ⟨r34, hr34, hm⟩ := bnd hm
      have hq := some_i hm
      subst hq
      exact dss_ret (ω1 := []) (de_call (d := .v (cB r34)) (ωp := []) (ωp' := []) (ωr := []) (ω2 := []) (ok_is_ascending T) (hr.mono (by decide)) T.m_is_ascending T.F_is_ascending.kp T.b_is_ascending (da_cons (de_asT (de_var (d := .v x_value) 0) hx33) da_nil) ⟨x33, r34, rfl, rfl, hr34, rfl⟩ (fun _ _ h => h) [] []) (by first | exact ⟨rfl, rfl⟩ | exact ⟨⟨rfl, rfl⟩, fun z => z⟩ | exact ⟨⟨⟨rfl, rfl⟩, fun z => z⟩, fun z => z⟩ | exact ⟨⟨⟨⟨rfl, rfl⟩, fun z => z⟩, fun z => z⟩, fun z => z⟩)
    · intro q35 hrq35 o po
      subst hrq35
      have hq := some_i hm
      subst hq
      subst po
      exact ⟨rfl, rfl⟩
    · intro z hz
      subst hz
      cases hm
end
end K44
end

section
set_option Elab.async false
set_option linter.all false
set_option maxRecDepth 100000
set_option maxHeartbeats 4000000
namespace K44
open PySem L2 Q TL
section
variable {P : Program} {w : World} {K : PySem.W.Frag} {mg : Str → Option Value} {base : Heap}
theorem ok_is_machine (T : Txt P K mg) : FnOk P w K mg base CX0 4 T.f_is_machine T.d_is_machine ["value"] (SpC (Mir (A := PyData) (fun x => m_is_machine x) (fun x => [.v x]) (fun x => []) (fun x t => .v (cB t)) (fun x t => []))) := by
  refine fn_d (k := 3) T.F_is_machine sc_is_machine (by rintro _ _ _ ⟨x, t, rfl, _⟩; rfl) (by decide) fun cdv A outer s H E ds ω Pr hr hR => ?_
  obtain ⟨x_value, t, rfl, rfl, hm, rfl⟩ := hR
  skip
  have nd := sc_is_machine.nd
  have hu := hr.units
  change m_is_machine x_value = some t at hm
  unfold m_is_machine at hm
  change DSs _ _ [some (.v x_value)] [] _
  obtain ⟨b12, hb12, hm⟩ := bnd hm
  refine dss_if1 (ω1 := []) (dt_bool (dw_is (dw_or (dt_not (dt_val (de_isiTuple T.z_isinstance T.z_tuple (de_var (d := .v x_value) 0)))) (fun hk13 => by
        have hm := cnd_f hk13 hb12
        obtain ⟨x1, hx1, hm⟩ := bnd hm
        obtain ⟨b10, hb10, hm⟩ := bnd hm
        have hq := some_i hm
        subst hq
        exact (dw_is (dw_or (dt_c (de_lenTt (c := cP) (xs := x1) T.z_len (de_asT (de_var (d := .v x_value) 0) hx1)) de_int c_neI) (fun hk11 => by
        have hm := cnd_f hk11 hb10
        obtain ⟨x2, hx2, hm⟩ := bnd hm
        obtain ⟨x3, hx3, hm⟩ := bnd hm
        obtain ⟨r4, hr4, hm⟩ := bnd hm
        obtain ⟨b8, hb8, hm⟩ := bnd hm
        have hq := some_i hm
        subst hq
        exact (dw_is (dw_or (dt_not (dt_val (de_call (d := .v (cB r4)) (ωp := []) (ωp' := []) (ωr := []) (ω2 := []) (ok_is_integer T) (hr.mono (by decide)) T.m_is_integer T.F_is_integer.kp T.b_is_integer (da_cons (de_ixTt (c := cP) (de_asT (de_var (d := .v x_value) 0) hx2) de_int hx3) da_nil) ⟨x3, r4, rfl, rfl, hr4, rfl⟩ (fun _ _ h => h) [] []))) (fun hk9 => by
        have hm := cnd_f hk9 hb8
        obtain ⟨x5, hx5, hm⟩ := bnd hm
        obtain ⟨x6, hx6, hm⟩ := bnd hm
        obtain ⟨x7, hx7, hm⟩ := bnd hm
        have hq := some_i hm
        subst hq
        exact (dw_or1 (dt_c (de_asI (de_ixTt (c := cP) (de_asT (de_var (d := .v x_value) 0) hx5) de_int hx6) hx7) de_int c_lt))) (fun _ => rfl)) (or_val hb8))) (fun _ => rfl)) (or_val hb10))) (fun _ => rfl)) (or_val hb12))) (fun hk => ?_) (fun hk => ?_)
  · have hm := cnd_t hk hm
    have hq := some_i hm
    subst hq
    exact dss_ret (ω1 := []) de_bl (by first | exact ⟨rfl, rfl⟩ | exact ⟨⟨rfl, rfl⟩, fun z => z⟩ | exact ⟨⟨⟨rfl, rfl⟩, fun z => z⟩, fun z => z⟩ | exact ⟨⟨⟨⟨rfl, rfl⟩, fun z => z⟩, fun z => z⟩, fun z => z⟩)
  · have hm := cnd_f hk hm
    obtain ⟨x14, hx14, hm⟩ := bnd hm
    obtain ⟨x15, hx15, hm⟩ := bnd hm
    obtain ⟨x16, hx16, hm⟩ := bnd hm
    obtain ⟨x17, hx17, hm⟩ := bnd hm
    obtain ⟨x18, hx18, hm⟩ := bnd hm
    obtain ⟨r19, hr19, hm⟩ := bnd hm
    obtain ⟨b34, hb34, hm⟩ := bnd hm
    have hq := some_i hm
    subst hq
    exact dss_ret (ω1 := []) (de_is (de_and (de_call (d := .v (cB r19)) (ωp := []) (ωp' := []) (ωr := []) (ω2 := []) (ok_are_pairs T) (hr.mono (by decide)) T.m_are_pairs T.F_are_pairs.kp T.b_are_pairs (da_cons (de_ixTt (c := cP) (de_asT (de_var (d := .v x_value) 0) hx14) de_int hx15) (da_cons (de_asI (de_ixTt (c := cP) (de_asT (de_var (d := .v x_value) 0) hx16) de_int hx17) hx18) da_nil)) ⟨(x15, x18), r19, rfl, rfl, hr19, rfl⟩ (fun _ _ h => h) [] []) (fun hk35 => by
        have hm := cnd_t hk35 hb34
        obtain ⟨x20, hx20, hm⟩ := bnd hm
        obtain ⟨x21, hx21, hm⟩ := bnd hm
        obtain ⟨x22, hx22, hm⟩ := bnd hm
        obtain ⟨x23, hx23, hm⟩ := bnd hm
        obtain ⟨x24, hx24, hm⟩ := bnd hm
        obtain ⟨r25, hr25, hm⟩ := bnd hm
        obtain ⟨b32, hb32, hm⟩ := bnd hm
        have hq := some_i hm
        subst hq
        exact (de_is (de_and (de_call (d := .v (cB r25)) (ωp := []) (ωp' := []) (ωr := []) (ω2 := []) (ok_are_edges T) (hr.mono (by decide)) T.m_are_edges T.F_are_edges.kp T.b_are_edges (da_cons (de_ixTt (c := cP) (de_asT (de_var (d := .v x_value) 0) hx20) de_int hx21) (da_cons (de_asI (de_ixTt (c := cP) (de_asT (de_var (d := .v x_value) 0) hx22) de_int hx23) hx24) da_nil)) ⟨(x21, x24), r25, rfl, rfl, hr25, rfl⟩ (fun _ _ h => h) [] []) (fun hk33 => by
        have hm := cnd_t hk33 hb32
        obtain ⟨x26, hx26, hm⟩ := bnd hm
        obtain ⟨x27, hx27, hm⟩ := bnd hm
        obtain ⟨x28, hx28, hm⟩ := bnd hm
        obtain ⟨x29, hx29, hm⟩ := bnd hm
        obtain ⟨x30, hx30, hm⟩ := bnd hm
        obtain ⟨r31, hr31, hm⟩ := bnd hm
        have hq := some_i hm
        subst hq
        exact (de_and1 (de_call (d := .v (cB r31)) (ωp := []) (ωp' := []) (ωr := []) (ω2 := []) (ok_are_pairs T) (hr.mono (by decide)) T.m_are_pairs T.F_are_pairs.kp T.b_are_pairs (da_cons (de_ixTt (c := cP) (de_asT (de_var (d := .v x_value) 0) hx26) de_int hx27) (da_cons (de_asI (de_ixTt (c := cP) (de_asT (de_var (d := .v x_value) 0) hx28) de_int hx29) hx30) da_nil)) ⟨(x27, x30), r31, rfl, rfl, hr31, rfl⟩ (fun _ _ h => h) [] [])))) (congrArg (fun b => D.v (cB b)) (and_val hb32))))) (congrArg (fun b => D.v (cB b)) (and_val hb34))) (by first | exact ⟨rfl, rfl⟩ | exact ⟨⟨rfl, rfl⟩, fun z => z⟩ | exact ⟨⟨⟨rfl, rfl⟩, fun z => z⟩, fun z => z⟩ | exact ⟨⟨⟨⟨rfl, rfl⟩, fun z => z⟩, fun z => z⟩, fun z => z⟩)
end
end K44
end

section
set_option Elab.async false
set_option linter.all false
set_option maxRecDepth 100000
set_option maxHeartbeats 4000000
namespace K44
open PySem L2 Q TL
section
variable {P : Program} {w : World} {K : PySem.W.Frag} {mg : Str → Option Value} {base : Heap}
theorem ok_law (T : Txt P K mg) : FnG P w K mg base CX0 5 T.f_law T.d_law ["script"] (SpC (Mir (A := (List Int)) (fun x => m_law x) (fun x => [scrD K x]) (fun x => []) (fun x t => .v (cB t)) (fun x t => []))) := by
  refine fnG_d (k := 4) T.F_law sc_law (by rintro _ _ _ ⟨x, t, rfl, _⟩; rfl) (by decide) fun cdv A outer s H E ds ω Pr hr hgd hR => ?_
  obtain ⟨x_script, t, rfl, rfl, hm, rfl⟩ := hR
  skip
  have nd := sc_law.nd
  have hu := hr.units
  change m_law x_script = some t at hm
  unfold m_law at hm
  change DSs _ _ [some (scrD K x_script), none, none, none, none, none, none, none, none, none, none, none, none, none] [] _
  obtain ⟨r1, hr1, hm⟩ := bnd hm
  refine dss_setN (cc := .lst [(cL cI) r1.1, cI r1.2.1, cI r1.2.2.1, cI r1.2.2.2.1, cI r1.2.2.2.2]) (ω1 := []) 1 (dn_call (cc := .lst [(cL cI) r1.1, cI r1.2.1, cI r1.2.2.1, cI r1.2.2.2.1, cI r1.2.2.2.2]) (ωp := []) (ωp' := []) (ωr := []) (ω2 := []) (ok_law_start T) (hr.mono (by decide)) T.m_law_start T.F_law_start.kp T.b_law_start (da_cons (de_var (d := scrD K x_script) 0) da_nil) ⟨x_script, r1, rfl, rfl, hr1, rfl⟩ (fun _ _ h => h) [] [0]) (fun a2 => ?_)
  change DSs _ _ [some (scrD K x_script), some (.adr a2), none, none, none, none, none, none, none, none, none, none, none, none] [(a2, .lst [(cL cI) r1.1, cI r1.2.1, cI r1.2.2.1, cI r1.2.2.2.1, cI r1.2.2.2.2])] _
  obtain ⟨r3, hr3, hm⟩ := bnd hm
  obtain ⟨v4, hv4, hm⟩ := lt_some hm
  refine dss_set (d := .v (cI v4)) (ρ' := [some (scrD K x_script), some (.adr a2), some (.v (cI v4)), none, none, none, none, none, none, none, none, none, none, none]) (ω1 := [(a2, .lst [(cL cI) r3.2.1, cI r3.2.2.1, cI r3.2.2.2.1, cI r3.2.2.2.2.1, cI r3.2.2.2.2.2])]) 2 (de_is (d := .v (cI (1 + r3.1))) (de_add de_int (de_call (d := .v (cI r3.1)) (ωp := [(a2, .lst [(cL cI) r1.1, cI r1.2.1, cI r1.2.2.1, cI r1.2.2.2.1, cI r1.2.2.2.2])]) (ωp' := [(a2, .lst [(cL cI) r3.2.1, cI r3.2.2.1, cI r3.2.2.2.1, cI r3.2.2.2.2.1, cI r3.2.2.2.2.2])]) (ωr := []) (ω2 := [(a2, .lst [(cL cI) r3.2.1, cI r3.2.2.1, cI r3.2.2.2.1, cI r3.2.2.2.2.1, cI r3.2.2.2.2.2])]) (ok_law_take T) (hr.mono (by decide)) T.m_law_take T.F_law_take.kp T.b_law_take (da_cons (de_var (d := .adr a2) 1) (da_cons de_int da_nil)) ⟨(a2, r1, 12), r3, rfl, rfl, hr3, rfl⟩ (fun _ _ h => h) [0] [0])) (by rw [hv4])) ?_
  obtain ⟨r5, hr5, hm⟩ := bnd hm
  obtain ⟨x6, hx6, hm⟩ := bnd hm
  obtain ⟨r7, hr7, hm⟩ := bnd hm
  obtain ⟨r8, hr8, hm⟩ := bnd hm
  refine dss_set (d := .v (cMach r8.1)) (ρ' := [some (scrD K x_script), some (.adr a2), some (.v (cI v4)), some (.v (cMach r8.1)), none, none, none, none, none, none, none, none, none, none]) (ω1 := [(a2, .lst [(cL cI) r8.2.1, cI r8.2.2.1, cI r8.2.2.2.1, cI r8.2.2.2.2.1, cI r8.2.2.2.2.2])]) 3 (de_call (d := .v (cMach r8.1)) (ωp := [(a2, .lst [(cL cI) r7.2.1, cI r7.2.2.1, cI r7.2.2.2.1, cI r7.2.2.2.2.1, cI r7.2.2.2.2.2])]) (ωp' := [(a2, .lst [(cL cI) r8.2.1, cI r8.2.2.1, cI r8.2.2.2.1, cI r8.2.2.2.2.1, cI r8.2.2.2.2.2])]) (ωr := []) (ω2 := [(a2, .lst [(cL cI) r8.2.1, cI r8.2.2.1, cI r8.2.2.2.1, cI r8.2.2.2.2.1, cI r8.2.2.2.2.2])]) (ok_law_machine T) (hr.mono (by decide)) T.m_law_machine T.F_law_machine.kp T.b_law_machine (da_cons (de_var (d := .adr a2) 1) (da_cons (de_call (d := .v (cParts r7.1)) (ωp := [(a2, .lst [(cL cI) r5.2.1, cI r5.2.2.1, cI r5.2.2.2.1, cI r5.2.2.2.2.1, cI r5.2.2.2.2.2])]) (ωp' := [(a2, .lst [(cL cI) r7.2.1, cI r7.2.2.1, cI r7.2.2.2.1, cI r7.2.2.2.2.1, cI r7.2.2.2.2.2])]) (ωr := []) (ω2 := [(a2, .lst [(cL cI) r7.2.1, cI r7.2.2.1, cI r7.2.2.2.1, cI r7.2.2.2.2.1, cI r7.2.2.2.2.2])]) (ok_law_drawn T) (hr.mono (by decide)) T.m_law_drawn T.F_law_drawn.kp T.b_law_drawn (da_cons (de_var (d := .adr a2) 1) (da_cons (de_str ([97, 98, 122] : Wd)) (da_cons (de_ixLt (c := cS) (de_froz (dn_lst (ps := List.map cS ([([120, 121] : Wd), ([97, 122] : Wd)] : List Wd)) (da_cons (de_str ([120, 121] : Wd)) (da_cons (de_str ([97, 122] : Wd)) da_nil)))) (de_call (d := .v (cI r5.1)) (ωp := [(a2, .lst [(cL cI) r3.2.1, cI r3.2.2.1, cI r3.2.2.2.1, cI r3.2.2.2.2.1, cI r3.2.2.2.2.2])]) (ωp' := [(a2, .lst [(cL cI) r5.2.1, cI r5.2.2.1, cI r5.2.2.2.1, cI r5.2.2.2.2.1, cI r5.2.2.2.2.2])]) (ωr := []) (ω2 := [(a2, .lst [(cL cI) r5.2.1, cI r5.2.2.1, cI r5.2.2.2.1, cI r5.2.2.2.2.1, cI r5.2.2.2.2.2])]) (ok_law_take T) (hr.mono (by decide)) T.m_law_take T.F_law_take.kp T.b_law_take (da_cons (de_var (d := .adr a2) 1) (da_cons de_int da_nil)) ⟨(a2, r3.2, 2), r5, rfl, rfl, hr5, rfl⟩ (fun _ _ h => h) [0] [0]) lv hx6) (da_cons (de_var (d := .v (cI v4)) 2) da_nil)))) ⟨(a2, r5.2, ([97, 98, 122] : Wd), x6, v4), r7, rfl, rfl, hr7, rfl⟩ (fun _ _ h => h) [0] [0]) da_nil)) ⟨(a2, r7.2, r7.1), r8, rfl, rfl, hr8, rfl⟩ (fun _ _ h => h) [0] [0]) ?_
  obtain ⟨r9, hr9, hm⟩ := bnd hm
  obtain ⟨j12, hj12, hm⟩ := bnd hm
  refine dss_join (ω1 := [(a2, .lst [(cL cI) r9.2.1, cI r9.2.2.1, cI r9.2.2.2.1, cI r9.2.2.2.2.1, cI r9.2.2.2.2.2])]) [some (scrD K x_script), some (.adr a2), some (.v (cI v4)), some (.v (cMach j12.1)), none, none, none, none, none, none, none, none, none, none] [(a2, .lst [(cL cI) j12.2.1, cI j12.2.2.1, cI j12.2.2.2.1, cI j12.2.2.2.2.1, cI j12.2.2.2.2.2])] (dt_c (de_call (d := .v (cI r9.1)) (ωp := [(a2, .lst [(cL cI) r8.2.1, cI r8.2.2.1, cI r8.2.2.2.1, cI r8.2.2.2.2.1, cI r8.2.2.2.2.2])]) (ωp' := [(a2, .lst [(cL cI) r9.2.1, cI r9.2.2.1, cI r9.2.2.2.1, cI r9.2.2.2.2.1, cI r9.2.2.2.2.2])]) (ωr := []) (ω2 := [(a2, .lst [(cL cI) r9.2.1, cI r9.2.2.1, cI r9.2.2.2.1, cI r9.2.2.2.2.1, cI r9.2.2.2.2.2])]) (ok_law_take T) (hr.mono (by decide)) T.m_law_take T.F_law_take.kp T.b_law_take (da_cons (de_var (d := .adr a2) 1) (da_cons de_int da_nil)) ⟨(a2, r8.2, 9), r9, rfl, rfl, hr9, rfl⟩ (fun _ _ h => h) [0] [0]) de_int c_eqI) (fun hk => ?_) (fun hk => ?_) ?_
  · have hm := cnd_t hk hj12
    obtain ⟨r13, hr13, hm⟩ := bnd hm
    obtain ⟨v14, hv14, hm⟩ := lt_some hm
    refine dss_set (d := .v (cMach v14)) (ρ' := [some (scrD K x_script), some (.adr a2), some (.v (cI v4)), some (.v (cMach v14)), none, none, none, none, none, none, none, none, none, none]) (ω1 := [(a2, .lst [(cL cI) r13.2.1, cI r13.2.2.1, cI r13.2.2.2.1, cI r13.2.2.2.2.1, cI r13.2.2.2.2.2])]) 3 (de_is (d := .v (cMach (r13.1, ([] : List PW), ([] : List EW), ([] : List PW)))) (de_tup (ps := [cI r13.1, (cT cPW) ([] : List PW), (cT cEW) ([] : List EW), (cT cPW) ([] : List PW)]) (da_cons (de_call (d := .v (cI r13.1)) (ωp := [(a2, .lst [(cL cI) r9.2.1, cI r9.2.2.1, cI r9.2.2.2.1, cI r9.2.2.2.2.1, cI r9.2.2.2.2.2])]) (ωp' := [(a2, .lst [(cL cI) r13.2.1, cI r13.2.2.1, cI r13.2.2.2.1, cI r13.2.2.2.2.1, cI r13.2.2.2.2.2])]) (ωr := []) (ω2 := [(a2, .lst [(cL cI) r13.2.1, cI r13.2.2.1, cI r13.2.2.2.1, cI r13.2.2.2.2.1, cI r13.2.2.2.2.2])]) (ok_law_take T) (hr.mono (by decide)) T.m_law_take T.F_law_take.kp T.b_law_take (da_cons (de_var (d := .adr a2) 1) (da_cons de_int da_nil)) ⟨(a2, r9.2, 3), r13, rfl, rfl, hr13, rfl⟩ (fun _ _ h => h) [0] [0]) (da_cons (de_tup (ps := []) da_nil) (da_cons (de_tup (ps := []) da_nil) (da_cons (de_tup (ps := []) da_nil) da_nil))))) (by rw [hv14])) ?_
    have hq := some_i hm
    subst hq
    exact dss_end ⟨.inr rfl, .inr rfl, .inr rfl, .inr rfl, .inl rfl, .inl rfl, .inl rfl, .inl rfl, .inl rfl, .inl rfl, .inl rfl, .inl rfl, .inl rfl, .inl rfl, trivial⟩ ⟨[0], rfl, by decide⟩
  · have hm := cnd_f hk hj12
    have hq := some_i hm
    subst hq
    exact dss_end ⟨.inr rfl, .inr rfl, .inr rfl, .inr rfl, .inl rfl, .inl rfl, .inl rfl, .inl rfl, .inl rfl, .inl rfl, .inl rfl, .inl rfl, .inl rfl, .inl rfl, trivial⟩ ⟨[0], rfl, by decide⟩
  obtain ⟨r15, hr15, hm⟩ := bnd hm
  refine dss_set (d := .v ((cL (cL cS)) r15)) (ρ' := [some (scrD K x_script), some (.adr a2), some (.v (cI v4)), some (.v (cMach j12.1)), some (.v ((cL (cL cS)) r15)), none, none, none, none, none, none, none, none, none]) (ω1 := [(a2, .lst [(cL cI) j12.2.1, cI j12.2.2.1, cI j12.2.2.2.1, cI j12.2.2.2.2.1, cI j12.2.2.2.2.2])]) 4 (de_call (d := .v ((cL (cL cS)) r15)) (ωp := []) (ωp' := []) (ωr := [(a2, .lst [(cL cI) j12.2.1, cI j12.2.2.1, cI j12.2.2.2.1, cI j12.2.2.2.2.1, cI j12.2.2.2.2.2])]) (ω2 := [(a2, .lst [(cL cI) j12.2.1, cI j12.2.2.1, cI j12.2.2.2.1, cI j12.2.2.2.2.1, cI j12.2.2.2.2.2])]) (ok_law_lines T) (hr.mono (by decide)) T.m_law_lines T.F_law_lines.kp T.b_law_lines (da_cons (de_var (d := .v (cMach j12.1)) 3) da_nil) ⟨j12.1, r15, rfl, rfl, hr15, rfl⟩ (fun _ _ h => h) [0] [0]) ?_
  obtain ⟨l20, hl20, hm⟩ := bnd hm
  obtain ⟨hg21, hm⟩ := gd_some hm
  obtain ⟨v22, hv22, hm⟩ := lt_some hm
  refine dss_set (d := .v (cS v22)) (ρ' := [some (scrD K x_script), some (.adr a2), some (.v (cI v4)), some (.v (cMach j12.1)), some (.v ((cL (cL cS)) r15)), some (.v (cS v22)), none, none, none, none, none, none, none, none]) (ω1 := [(a2, .lst [(cL cI) j12.2.1, cI j12.2.2.1, cI j12.2.2.2.1, cI j12.2.2.2.2.1, cI j12.2.2.2.2.2])]) 5 (de_is (d := .v (cS (TL.joinL ([] : Wd) l20.1))) (de_join (ws := l20.1) (de_str ([] : Wd)) (de_froz (dn_of (comp_d (cy := cS) [("line", 13)] (.nm 13) _ (fun x => .v ((cL cS) x)) (fun s19 => [(a2, .lst [(cL cI) j12.2.1, cI j12.2.2.1, cI j12.2.2.2.1, cI j12.2.2.2.2.1, cI j12.2.2.2.2.2])]) _ _ _ hl20 (di_listT (c := (cL cS)) (de_var (d := .v ((cL (cL cS)) r15)) 4)) (Pk.refl _) (blkOk_by (N := ["script", "c", "many", "machine", "lines", "text", "mixed", "turn", "due", "error", "value", "told", "wrong", "line"]) (sc := defScope s_law) (own := [("line", 13)]) (by decide +kernel)) (fun _ _ _ _ _ => pg_name (i := 13) nd rfl (by first | exact Or.inl rfl | exact Or.inr rfl)) (by intro i hi; revert i hi; decide) (fun _ => rfl) (fun _ _ _ _ hb _ _ _ _ _ => by cases (some_i hb); exact dts_nil) (fun e16 s19 _ hx _ hb _ _ _ _ _ => by
          have hm := hb
          obtain ⟨hg17, hm⟩ := gd_some hm
          obtain ⟨hg18, hm⟩ := gd_some hm
          have hq := some_i hm
          subst hq
          exact (de_addS (de_join (ws := e16) (de_str ([32] : Wd)) (de_var (d := .v ((cL cS) e16)) 13) lv hg17) (de_str ([10] : Wd)) hg18))))) lv hg21) (by rw [hv22])) ?_
  obtain ⟨r23, hr23, hm⟩ := bnd hm
  obtain ⟨x24, hx24, hm⟩ := bnd hm
  obtain ⟨x25, hx25, hm⟩ := bnd hm
  obtain ⟨b29, hb29, hm⟩ := bnd hm
  refine dss_if1 (ω1 := [(a2, .lst [(cL cI) j12.2.1, cI j12.2.2.1, cI j12.2.2.2.1, cI j12.2.2.2.2.1, cI j12.2.2.2.2.2])]) (dt_bool (dw_is (dw_or (dt_c (de_repr hgd hr T.z_repr (de_call (d := .v (cS r23)) (ωp := []) (ωp' := []) (ωr := [(a2, .lst [(cL cI) j12.2.1, cI j12.2.2.1, cI j12.2.2.2.1, cI j12.2.2.2.2.1, cI j12.2.2.2.2.2])]) (ω2 := [(a2, .lst [(cL cI) j12.2.1, cI j12.2.2.1, cI j12.2.2.2.1, cI j12.2.2.2.2.1, cI j12.2.2.2.2.2])]) (ok_show T) (hr.mono (by decide)) T.m_show T.F_show.kp T.b_show (da_cons (de_var (d := .v (cMach j12.1)) 3) da_nil) ⟨j12.1, r23, rfl, rfl, hr23, rfl⟩ (fun _ _ h => h) [0] [0]) hx24) (de_repr hgd hr T.z_repr (de_var (d := .v (cS v22)) 5) hx25) c_neS) (fun hk30 => by
        have hm := cnd_f hk30 hb29
        obtain ⟨r26, hr26, hm⟩ := bnd hm
        obtain ⟨x27, hx27, hm⟩ := bnd hm
        obtain ⟨x28, hx28, hm⟩ := bnd hm
        have hq := some_i hm
        subst hq
        exact (dw_or1 (dt_c (de_repr hgd hr T.z_repr (de_callX (x := v22) (y := r26) (ok_read T) (hr.mono (by decide)) T.m_read T.F_read.kp T.b_read (da_cons (de_var (d := .v (cS v22)) 5) da_nil) (okX_some hr26)) hx27) (de_repr hgd hr T.z_repr (de_var (d := .v (cMach j12.1)) 3) hx28) c_neS))) (fun _ => rfl)) (or_val hb29))) (fun hk => ?_) (fun hk => ?_)
  · have hm := cnd_t hk hm
    have hq := some_i hm
    subst hq
    exact dss_ret (ω1 := []) (de_drop de_bl ⟨[], rfl, by decide⟩) (by first | exact ⟨rfl, rfl⟩ | exact ⟨⟨rfl, rfl⟩, fun z => z⟩ | exact ⟨⟨⟨rfl, rfl⟩, fun z => z⟩, fun z => z⟩ | exact ⟨⟨⟨⟨rfl, rfl⟩, fun z => z⟩, fun z => z⟩, fun z => z⟩)
  · have hm := cnd_f hk hm
    obtain ⟨r31, hr31, hm⟩ := bnd hm
    obtain ⟨hg32, hm⟩ := gd_some hm
    obtain ⟨r33, hr33, hm⟩ := bnd hm
    obtain ⟨hg34, hm⟩ := gd_some hm
    obtain ⟨hg35, hm⟩ := gd_some hm
    obtain ⟨r36, hr36, hm⟩ := bnd hm
    obtain ⟨hg37, hm⟩ := gd_some hm
    obtain ⟨v38, hv38, hm⟩ := lt_some hm
    refine dss_set (d := .v ((cL (cL cS)) v38)) (ρ' := [some (scrD K x_script), some (.adr a2), some (.v (cI v4)), some (.v (cMach j12.1)), some (.v ((cL (cL cS)) r15)), some (.v (cS v22)), some (.v ((cL (cL cS)) v38)), none, none, none, none, none, none, none]) (ω1 := [(a2, .lst [(cL cI) r36.2.1, cI r36.2.2.1, cI r36.2.2.2.1, cI r36.2.2.2.2.1, cI r36.2.2.2.2.2])]) 6 (de_is (d := .v ((cL (cL cS)) (cut r15 none (some 1) ++ r36.1))) (de_froz (dn_catT (c := (cL cS)) (xs := cut r15 none (some 1)) (ys := r36.1) (de_froz (dn_sliceLt (c := (cL cS)) (xs := r15) (de_var (d := .v ((cL (cL cS)) r15)) 4) do_none (do_some de_int) lv)) (de_call (d := .v ((cL (cL cS)) r36.1)) (ωp := [(a2, .lst [(cL cI) r33.2.1, cI r33.2.2.1, cI r33.2.2.2.1, cI r33.2.2.2.2.1, cI r33.2.2.2.2.2])]) (ωp' := [(a2, .lst [(cL cI) r36.2.1, cI r36.2.2.1, cI r36.2.2.2.1, cI r36.2.2.2.2.1, cI r36.2.2.2.2.2])]) (ωr := []) (ω2 := [(a2, .lst [(cL cI) r36.2.1, cI r36.2.2.1, cI r36.2.2.2.1, cI r36.2.2.2.2.1, cI r36.2.2.2.2.2])]) (ok_law_shuffled_W T) (hr.mono (by decide)) T.m_law_shuffled T.F_law_shuffled.kp T.b_law_shuffled (da_cons (de_var (d := .adr a2) 1) (da_cons (de_froz (dn_catT (c := (cL cS)) (xs := (cut r15 (some 1) none ++ cut (cut r15 (some 1) none) none (some r31.1))) (ys := (List.replicate (r33.1 : Int).toNat ([([] : List Wd)] : List (List Wd))).flatten) (de_froz (dn_catT (c := (cL cS)) (xs := cut r15 (some 1) none) (ys := cut (cut r15 (some 1) none) none (some r31.1)) (de_froz (dn_sliceLt (c := (cL cS)) (xs := r15) (de_var (d := .v ((cL (cL cS)) r15)) 4) (do_some de_int) do_none lv)) (de_froz (dn_sliceLt (c := (cL cS)) (xs := cut r15 (some 1) none) (de_froz (dn_sliceLt (c := (cL cS)) (xs := r15) (de_var (d := .v ((cL (cL cS)) r15)) 4) (do_some de_int) do_none lv)) do_none (do_some (de_call (d := .v (cI r31.1)) (ωp := [(a2, .lst [(cL cI) j12.2.1, cI j12.2.2.1, cI j12.2.2.2.1, cI j12.2.2.2.2.1, cI j12.2.2.2.2.2])]) (ωp' := [(a2, .lst [(cL cI) r31.2.1, cI r31.2.2.1, cI r31.2.2.2.1, cI r31.2.2.2.2.1, cI r31.2.2.2.2.2])]) (ωr := []) (ω2 := [(a2, .lst [(cL cI) r31.2.1, cI r31.2.2.1, cI r31.2.2.2.1, cI r31.2.2.2.2.1, cI r31.2.2.2.2.2])]) (ok_law_take T) (hr.mono (by decide)) T.m_law_take T.F_law_take.kp T.b_law_take (da_cons (de_var (d := .adr a2) 1) (da_cons de_int da_nil)) ⟨(a2, j12.2, 3), r31, rfl, rfl, hr31, rfl⟩ (fun _ _ h => h) [0] [0])) lv)) lv lv hg32)) (de_froz (dn_repT (c := (cL cS)) (xs := ([([] : List Wd)] : List (List Wd))) (de_froz (dn_lst (ps := List.map (cL cS) ([([] : List Wd)] : List (List Wd))) (da_cons (de_froz (dn_lst (ps := List.map cS ([] : List Wd)) da_nil)) da_nil))) (de_call (d := .v (cI r33.1)) (ωp := [(a2, .lst [(cL cI) r31.2.1, cI r31.2.2.1, cI r31.2.2.2.1, cI r31.2.2.2.2.1, cI r31.2.2.2.2.2])]) (ωp' := [(a2, .lst [(cL cI) r33.2.1, cI r33.2.2.1, cI r33.2.2.2.1, cI r33.2.2.2.2.1, cI r33.2.2.2.2.2])]) (ωr := []) (ω2 := [(a2, .lst [(cL cI) r33.2.1, cI r33.2.2.1, cI r33.2.2.2.1, cI r33.2.2.2.2.1, cI r33.2.2.2.2.2])]) (ok_law_take T) (hr.mono (by decide)) T.m_law_take T.F_law_take.kp T.b_law_take (da_cons (de_var (d := .adr a2) 1) (da_cons de_int da_nil)) ⟨(a2, r31.2, 3), r33, rfl, rfl, hr33, rfl⟩ (fun _ _ h => h) [0] [0]) lv hg34)) lv lv hg35)) da_nil)) ⟨(a2, r33.2, ((cut r15 (some 1) none ++ cut (cut r15 (some 1) none) none (some r31.1)) ++ (List.replicate (r33.1 : Int).toNat ([([] : List Wd)] : List (List Wd))).flatten)), r36, rfl, rfl, hr36, rfl⟩ (fun _ _ h => h) [0] [0]) lv lv hg37)) (by rw [hv38])) ?_
    obtain ⟨r39, hr39, hm⟩ := bnd hm
    obtain ⟨hg40, hm⟩ := gd_some hm
    obtain ⟨hg41, hm⟩ := gd_some hm
    obtain ⟨v42, hv42, hm⟩ := lt_some hm
    refine dss_set (d := .v ((cL (cL cS)) v42)) (ρ' := [some (scrD K x_script), some (.adr a2), some (.v (cI v4)), some (.v (cMach j12.1)), some (.v ((cL (cL cS)) r15)), some (.v (cS v22)), some (.v ((cL (cL cS)) v42)), none, none, none, none, none, none, none]) (ω1 := [(a2, .lst [(cL cI) r39.2.1, cI r39.2.2.1, cI r39.2.2.2.1, cI r39.2.2.2.2.1, cI r39.2.2.2.2.2])]) 6 (de_is (d := .v ((cL (cL cS)) ((List.replicate (r39.1 : Int).toNat ([([] : List Wd)] : List (List Wd))).flatten ++ v38))) (de_froz (dn_catT (c := (cL cS)) (xs := (List.replicate (r39.1 : Int).toNat ([([] : List Wd)] : List (List Wd))).flatten) (ys := v38) (de_froz (dn_repT (c := (cL cS)) (xs := ([([] : List Wd)] : List (List Wd))) (de_froz (dn_lst (ps := List.map (cL cS) ([([] : List Wd)] : List (List Wd))) (da_cons (de_froz (dn_lst (ps := List.map cS ([] : List Wd)) da_nil)) da_nil))) (de_call (d := .v (cI r39.1)) (ωp := [(a2, .lst [(cL cI) r36.2.1, cI r36.2.2.1, cI r36.2.2.2.1, cI r36.2.2.2.2.1, cI r36.2.2.2.2.2])]) (ωp' := [(a2, .lst [(cL cI) r39.2.1, cI r39.2.2.1, cI r39.2.2.2.1, cI r39.2.2.2.2.1, cI r39.2.2.2.2.2])]) (ωr := []) (ω2 := [(a2, .lst [(cL cI) r39.2.1, cI r39.2.2.1, cI r39.2.2.2.1, cI r39.2.2.2.2.1, cI r39.2.2.2.2.2])]) (ok_law_take T) (hr.mono (by decide)) T.m_law_take T.F_law_take.kp T.b_law_take (da_cons (de_var (d := .adr a2) 1) (da_cons de_int da_nil)) ⟨(a2, r36.2, 2), r39, rfl, rfl, hr39, rfl⟩ (fun _ _ h => h) [0] [0]) lv hg40)) (de_var (d := .v ((cL (cL cS)) v38)) 6) lv lv hg41)) (by rw [hv42])) ?_
    obtain ⟨r43, hr43, hm⟩ := bnd hm
    obtain ⟨r44, hr44, hm⟩ := bnd hm
    obtain ⟨x45, hx45, hm⟩ := bnd hm
    obtain ⟨x46, hx46, hm⟩ := bnd hm
    refine dss_if1 (ω1 := [(a2, .lst [(cL cI) r43.2.1, cI r43.2.2.1, cI r43.2.2.2.1, cI r43.2.2.2.2.1, cI r43.2.2.2.2.2])]) (dt_c (de_repr hgd hr T.z_repr (de_callX (x := r43.1) (y := r44) (ok_read T) (hr.mono (by decide)) T.m_read T.F_read.kp T.b_read (da_cons (de_call (d := .v (cS r43.1)) (ωp := [(a2, .lst [(cL cI) r39.2.1, cI r39.2.2.1, cI r39.2.2.2.1, cI r39.2.2.2.2.1, cI r39.2.2.2.2.2])]) (ωp' := [(a2, .lst [(cL cI) r43.2.1, cI r43.2.2.1, cI r43.2.2.2.1, cI r43.2.2.2.2.1, cI r43.2.2.2.2.2])]) (ωr := []) (ω2 := [(a2, .lst [(cL cI) r43.2.1, cI r43.2.2.1, cI r43.2.2.2.1, cI r43.2.2.2.2.1, cI r43.2.2.2.2.2])]) (ok_law_text T) (hr.mono (by decide)) T.m_law_text T.F_law_text.kp T.b_law_text (da_cons (de_var (d := .adr a2) 1) (da_cons (de_var (d := .v ((cL (cL cS)) v42)) 6) da_nil)) ⟨(a2, r39.2, v42), r43, rfl, rfl, hr43, rfl⟩ (fun _ _ h => h) [0] [0]) da_nil) (okX_some hr44)) hx45) (de_repr hgd hr T.z_repr (de_var (d := .v (cMach j12.1)) 3) hx46) c_neS) (fun hk => ?_) (fun hk => ?_)
    · have hm := cnd_t hk hm
      have hq := some_i hm
      subst hq
      exact dss_ret (ω1 := []) (de_drop de_bl ⟨[], rfl, by decide⟩) (by first | exact ⟨rfl, rfl⟩ | exact ⟨⟨rfl, rfl⟩, fun z => z⟩ | exact ⟨⟨⟨rfl, rfl⟩, fun z => z⟩, fun z => z⟩ | exact ⟨⟨⟨⟨rfl, rfl⟩, fun z => z⟩, fun z => z⟩, fun z => z⟩)
    · have hm := cnd_f hk hm
      obtain ⟨hg47, hm⟩ := gd_some hm
      obtain ⟨r60, hr60, hm⟩ := bnd hm
      refine dss_for (.nm 7) _ (fun x => .v (cI x)) (fun (s48 : (List (List Wd)) × Wd × CS) => [some (scrD K x_script), some (.adr a2), some (.v (cI v4)), some (.v (cMach j12.1)), some (.v ((cL (cL cS)) r15)), some (.v (cS s48.2.1)), some (.v ((cL (cL cS)) s48.1)), none, none, none, none, none, none, none]) (fun (s48 : (List (List Wd)) × Wd × CS) => [(a2, .lst [(cL cI) s48.2.2.1, cI s48.2.2.2.1, cI s48.2.2.2.2.1, cI s48.2.2.2.2.2.1, cI s48.2.2.2.2.2.2])]) (fun (q61 : Bool) o => o = .rt (.v (cB q61)) []) _ _ hr60 (di_range T.z_range de_int hg47.1 hg47.2) (pg_name (i := 7) nd rfl (by first | exact Or.inl rfl | exact Or.inr rfl)) ⟨.inr rfl, .inr rfl, .inr rfl, .inr rfl, .inr rfl, .inr rfl, .inr rfl, .inl rfl, .inl rfl, .inl rfl, .inl rfl, .inl rfl, .inl rfl, .inl rfl, trivial⟩ ⟨[0], rfl, by decide⟩ (fun _ => rfl) ?_ ?_ ?_ ?_ PassesOwn.never
      · intro e50 s48 k hx hm
        change DSs _ _ [some (scrD K x_script), some (.adr a2), some (.v (cI v4)), some (.v (cMach j12.1)), some (.v ((cL (cL cS)) r15)), some (.v (cS s48.2.1)), some (.v ((cL (cL cS)) s48.1)), some (.v (cI e50)), none, none, none, none, none, none] [(a2, .lst [(cL cI) s48.2.2.1, cI s48.2.2.2.1, cI s48.2.2.2.2.1, cI s48.2.2.2.2.2.1, cI s48.2.2.2.2.2.2])] _
        obtain ⟨y51, hy51, hm⟩ := bnd hm
        obtain ⟨r52, hr52, hm⟩ := bnd hm
        refine dss_set (d := .v ((cL (cL cS)) r52.1)) (ρ' := [some (scrD K x_script), some (.adr a2), some (.v (cI v4)), some (.v (cMach j12.1)), some (.v ((cL (cL cS)) r15)), some (.v (cS s48.2.1)), some (.v ((cL (cL cS)) r52.1)), some (.v (cI e50)), none, none, none, none, none, none]) (ω1 := [(a2, .lst [(cL cI) r52.2.1, cI r52.2.2.1, cI r52.2.2.2.1, cI r52.2.2.2.2.1, cI r52.2.2.2.2.2])]) 6 (de_call (d := .v ((cL (cL cS)) r52.1)) (ωp := [(a2, .lst [(cL cI) s48.2.2.1, cI s48.2.2.2.1, cI s48.2.2.2.2.1, cI s48.2.2.2.2.2.1, cI s48.2.2.2.2.2.2])]) (ωp' := [(a2, .lst [(cL cI) r52.2.1, cI r52.2.2.1, cI r52.2.2.2.1, cI r52.2.2.2.2.1, cI r52.2.2.2.2.2])]) (ωr := []) (ω2 := [(a2, .lst [(cL cI) r52.2.1, cI r52.2.2.1, cI r52.2.2.2.1, cI r52.2.2.2.2.1, cI r52.2.2.2.2.2])]) (ok_law_broken T) (hr.mono (by decide)) T.m_law_broken T.F_law_broken.kp T.b_law_broken (da_cons (de_var (d := .adr a2) 1) (da_cons (de_if (d := .v ((cL (cL cS)) y51)) (ω2 := [(a2, .lst [(cL cI) s48.2.2.1, cI s48.2.2.2.1, cI s48.2.2.2.2.1, cI s48.2.2.2.2.2.1, cI s48.2.2.2.2.2.2])]) (dt_truLt (c := (cL cS)) (xs := s48.1) (de_var (d := .v ((cL (cL cS)) s48.1)) 6)) (fun hk => by
        have hm := cnd_t hk hy51
  
        have hq := some_i hm
        subst hq
        exact (de_var (d := .v ((cL (cL cS)) s48.1)) 6)) (fun hk => by
        have hm := cnd_f hk hy51
  
        have hq := some_i hm
        subst hq
        exact (de_froz (dn_lst (ps := List.map (cL cS) ([([([115, 116, 97, 116, 101, 115] : Wd), ([50] : Wd)] : List Wd)] : List (List Wd))) (da_cons (de_froz (dn_lst (ps := List.map cS ([([115, 116, 97, 116, 101, 115] : Wd), ([50] : Wd)] : List Wd)) (da_cons (de_str ([115, 116, 97, 116, 101, 115] : Wd)) (da_cons (de_str ([50] : Wd)) da_nil)))) da_nil))))) da_nil)) ⟨(a2, s48.2.2, y51), r52, rfl, rfl, hr52, rfl⟩ (fun _ _ h => h) [0] [0]) ?_
        obtain ⟨r53, hr53, hm⟩ := bnd hm
        refine dss_set (d := .v (cS r53.1)) (ρ' := [some (scrD K x_script), some (.adr a2), some (.v (cI v4)), some (.v (cMach j12.1)), some (.v ((cL (cL cS)) r15)), some (.v (cS r53.1)), some (.v ((cL (cL cS)) r52.1)), some (.v (cI e50)), none, none, none, none, none, none]) (ω1 := [(a2, .lst [(cL cI) r53.2.1, cI r53.2.2.1, cI r53.2.2.2.1, cI r53.2.2.2.2.1, cI r53.2.2.2.2.2])]) 5 (de_call (d := .v (cS r53.1)) (ωp := [(a2, .lst [(cL cI) r52.2.1, cI r52.2.2.1, cI r52.2.2.2.1, cI r52.2.2.2.2.1, cI r52.2.2.2.2.2])]) (ωp' := [(a2, .lst [(cL cI) r53.2.1, cI r53.2.2.1, cI r53.2.2.2.1, cI r53.2.2.2.2.1, cI r53.2.2.2.2.2])]) (ωr := []) (ω2 := [(a2, .lst [(cL cI) r53.2.1, cI r53.2.2.1, cI r53.2.2.2.1, cI r53.2.2.2.2.1, cI r53.2.2.2.2.2])]) (ok_law_text T) (hr.mono (by decide)) T.m_law_text T.F_law_text.kp T.b_law_text (da_cons (de_var (d := .adr a2) 1) (da_cons (de_var (d := .v ((cL (cL cS)) r52.1)) 6) da_nil)) ⟨(a2, r52.2, r52.1), r53, rfl, rfl, hr53, rfl⟩ (fun _ _ h => h) [0] [0]) ?_
        obtain ⟨r54, hr54, hm⟩ := bnd hm
        refine dss_set (d := .v r54) (ρ' := [some (scrD K x_script), some (.adr a2), some (.v (cI v4)), some (.v (cMach j12.1)), some (.v ((cL (cL cS)) r15)), some (.v (cS r53.1)), some (.v ((cL (cL cS)) r52.1)), some (.v (cI e50)), some (.v r54), none, none, none, none, none]) (ω1 := [(a2, .lst [(cL cI) r53.2.1, cI r53.2.2.1, cI r53.2.2.2.1, cI r53.2.2.2.2.1, cI r53.2.2.2.2.2])]) 8 (de_call (d := .v (cP r54)) (ωp := []) (ωp' := []) (ωr := [(a2, .lst [(cL cI) r53.2.1, cI r53.2.2.1, cI r53.2.2.2.1, cI r53.2.2.2.2.1, cI r53.2.2.2.2.2])]) (ω2 := [(a2, .lst [(cL cI) r53.2.1, cI r53.2.2.1, cI r53.2.2.2.1, cI r53.2.2.2.2.1, cI r53.2.2.2.2.2])]) (ok_law_due T) (hr.mono (by decide)) T.m_law_due T.F_law_due.kp T.b_law_due (da_cons (de_var (d := .v (cS r53.1)) 5) da_nil) ⟨r53.1, r54, rfl, rfl, hr54, rfl⟩ (fun _ _ h => h) [0] [0]) ?_
        refine dss_asg (d := .v ((c2 cP (cO cI)) (((fun _ => PyData.none) ()), none))) (ω1 := [(a2, .lst [(cL cI) r53.2.1, cI r53.2.2.1, cI r53.2.2.2.1, cI r53.2.2.2.2.1, cI r53.2.2.2.2.2])]) (.tp [11, 12]) (de_tup (ps := [((fun _ => PyData.none) ()), (cO cI) none]) (da_cons de_non (da_cons de_non da_nil))) (pg_tup rfl (pgs_cons (pg_name (i := 11) nd rfl (by first | exact Or.inl rfl | exact Or.inr rfl)) (pgs_cons (pg_name (i := 12) nd rfl (by first | exact Or.inl rfl | exact Or.inr rfl)) (pgs_nil)))) rfl ?_
        change DSs _ _ [some (scrD K x_script), some (.adr a2), some (.v (cI v4)), some (.v (cMach j12.1)), some (.v ((cL (cL cS)) r15)), some (.v (cS r53.1)), some (.v ((cL (cL cS)) r52.1)), some (.v (cI e50)), some (.v r54), none, none, some (.v ((fun _ => PyData.none) ())), some (.v ((cO cI) none)), none] _ _
        obtain ⟨r55, hr55, hm⟩ := bnd hm
        obtain ⟨j56, hj56, hm⟩ := lt_some hm
        refine dss_tryJ (x := r53.1) (r := r55) (ρ' := [some (scrD K x_script), some (.adr a2), some (.v (cI v4)), some (.v (cMach j12.1)), some (.v ((cL (cL cS)) r15)), some (.v (cS r53.1)), some (.v ((cL (cL cS)) r52.1)), some (.v (cI e50)), some (.v r54), none, none, some (.v j56.1), some (.v ((cO cI) j56.2)), none]) 11 12 9 (ok_read T) T.E_TextError (hr.mono (by decide)) T.m_read T.F_read.kp T.b_read (fun _ _ => (da_cons (de_var (d := .v (cS r53.1)) 5) da_nil)) hr55 (fun y hy => by subst hy; subst hj56; exact ⟨.inr rfl, .inr rfl, .inr rfl, .inr rfl, .inr rfl, .inr rfl, .inr rfl, .inr rfl, .inr rfl, .inl rfl, .inl rfl, .inr rfl, .inr rfl, .inl rfl, trivial⟩) (fun y hy => by subst hy; subst hj56; exact ⟨.inr rfl, .inr rfl, .inr rfl, .inr rfl, .inr rfl, .inr rfl, .inr rfl, .inr rfl, .inr rfl, .inl rfl, .inl rfl, .inr rfl, .inr rfl, .inl rfl, trivial⟩) ?_
        obtain ⟨y57, hy57, hm⟩ := bnd hm
        obtain ⟨x58, hx58, hm⟩ := bnd hm
        obtain ⟨x59, hx59, hm⟩ := bnd hm
        refine dss_if1 (ω1 := [(a2, .lst [(cL cI) r53.2.1, cI r53.2.2.1, cI r53.2.2.2.1, cI r53.2.2.2.2.1, cI r53.2.2.2.2.2])]) (dt_bool (dw_or (dt_c (de_repr hgd hr T.z_repr (de_if (d := .v y57) (ω2 := [(a2, .lst [(cL cI) r53.2.1, cI r53.2.2.1, cI r53.2.2.2.1, cI r53.2.2.2.2.1, cI r53.2.2.2.2.2])]) (dt_c (de_var (d := .v ((cO cI) j56.2)) 12) de_non (c_isNo (isN_cO (fun _ => rfl) j56.2))) (fun hk => by
        have hm := cnd_t hk hy57
  
        have hq := some_i hm
        subst hq
        exact (de_var (d := .v j56.1) 11)) (fun hk => by
        have hm := cnd_f hk hy57
  
        have hq := some_i hm
        subst hq
        exact (de_var (d := .v ((cO cI) j56.2)) 12))) hx58) (de_repr hgd hr T.z_repr (de_var (d := .v r54) 8) hx59) c_neS) (fun _ => (dw_or1 (dt_c (de_c (de_var (d := .v ((cO cI) j56.2)) 12) de_non (c_isNo (isN_cO (fun _ => rfl) j56.2))) (de_isiInt T.z_isinstance T.z_int (de_var (d := .v r54) 8)) (c_eqP hu (Nat.le_of_ble_eq_true rfl) (Nat.le_of_ble_eq_true rfl))))) (fun _ => rfl))) (fun hk => ?_) (fun hk => ?_)
        · have hm := cnd_t hk hm
          have hq := some_i hm
          subst hq
          exact dss_ret (ω1 := []) (de_drop de_bl ⟨[], rfl, by decide⟩) (by first | exact ⟨rfl, .inl ⟨_, _, rfl⟩⟩ | exact ⟨⟨rfl, .inl ⟨_, _, rfl⟩⟩, fun z => z⟩ | exact ⟨⟨⟨rfl, .inl ⟨_, _, rfl⟩⟩, fun z => z⟩, fun z => z⟩ | exact ⟨⟨⟨⟨rfl, .inl ⟨_, _, rfl⟩⟩, fun z => z⟩, fun z => z⟩, fun z => z⟩)
        · have hm := cnd_f hk hm
          have hq := some_i hm
          subst hq
          exact dss_nil ⟨_, _, .inl rfl, ⟨.inr rfl, .inr rfl, .inr rfl, .inr rfl, .inr rfl, .inr rfl, .inr rfl, .inl rfl, .inl rfl, .inl rfl, .inl rfl, .inl rfl, .inl rfl, .inl rfl, trivial⟩, ⟨[0], rfl, by decide⟩⟩
      · intro s49 hrs49
        subst hrs49
        obtain ⟨hg62, hm⟩ := gd_some hm
        obtain ⟨r71, hr71, hm⟩ := bnd hm
        refine dss_for (.nm 7) _ (fun x => .v (cI x)) (fun (s63 : CS) => [some (scrD K x_script), some (.adr a2), some (.v (cI v4)), some (.v (cMach j12.1)), some (.v ((cL (cL cS)) r15)), some (.v (cS s49.2.1)), some (.v ((cL (cL cS)) s49.1)), none, none, none, none, none, none, none]) (fun (s63 : CS) => [(a2, .lst [(cL cI) s63.1, cI s63.2.1, cI s63.2.2.1, cI s63.2.2.2.1, cI s63.2.2.2.2])]) (fun (q72 : Bool) o => o = .rt (.v (cB q72)) []) _ _ hr71 (di_range T.z_range de_int hg62.1 hg62.2) (pg_name (i := 7) nd rfl (by first | exact Or.inl rfl | exact Or.inr rfl)) ⟨.inr rfl, .inr rfl, .inr rfl, .inr rfl, .inr rfl, .inr rfl, .inr rfl, .inl rfl, .inl rfl, .inl rfl, .inl rfl, .inl rfl, .inl rfl, .inl rfl, trivial⟩ ⟨[0], rfl, by decide⟩ (fun _ => rfl) ?_ ?_ ?_ ?_ PassesOwn.never
        · intro e65 s63 k hx hm
          change DSs _ _ [some (scrD K x_script), some (.adr a2), some (.v (cI v4)), some (.v (cMach j12.1)), some (.v ((cL (cL cS)) r15)), some (.v (cS s49.2.1)), some (.v ((cL (cL cS)) s49.1)), some (.v (cI e65)), none, none, none, none, none, none] [(a2, .lst [(cL cI) s63.1, cI s63.2.1, cI s63.2.2.1, cI s63.2.2.2.1, cI s63.2.2.2.2])] _
          obtain ⟨r66, hr66, hm⟩ := bnd hm
          refine dss_set (d := .v r66.1) (ρ' := [some (scrD K x_script), some (.adr a2), some (.v (cI v4)), some (.v (cMach j12.1)), some (.v ((cL (cL cS)) r15)), some (.v (cS s49.2.1)), some (.v ((cL (cL cS)) s49.1)), some (.v (cI e65)), none, none, some (.v r66.1), none, none, none]) (ω1 := [(a2, .lst [(cL cI) r66.2.1, cI r66.2.2.1, cI r66.2.2.2.1, cI r66.2.2.2.2.1, cI r66.2.2.2.2.2])]) 10 (de_call (d := .v (cP r66.1)) (ωp := [(a2, .lst [(cL cI) s63.1, cI s63.2.1, cI s63.2.2.1, cI s63.2.2.2.1, cI s63.2.2.2.2])]) (ωp' := [(a2, .lst [(cL cI) r66.2.1, cI r66.2.2.1, cI r66.2.2.2.1, cI r66.2.2.2.2.1, cI r66.2.2.2.2.2])]) (ωr := []) (ω2 := [(a2, .lst [(cL cI) r66.2.1, cI r66.2.2.1, cI r66.2.2.2.1, cI r66.2.2.2.2.1, cI r66.2.2.2.2.2])]) (ok_law_bent T) (hr.mono (by decide)) T.m_law_bent T.F_law_bent.kp T.b_law_bent (da_cons (de_var (d := .adr a2) 1) (da_cons (de_var (d := .v (cMach j12.1)) 3) da_nil)) ⟨(a2, s63, j12.1), r66, rfl, rfl, hr66, rfl⟩ (fun _ _ h => h) [0] [0]) ?_
          obtain ⟨r67, hr67, hm⟩ := bnd hm
          obtain ⟨x68, hx68, hm⟩ := bnd hm
          obtain ⟨r69, hr69, hm⟩ := bnd hm
          obtain ⟨x70, hx70, hm⟩ := bnd hm
          refine dss_if1 (ω1 := [(a2, .lst [(cL cI) r66.2.1, cI r66.2.2.1, cI r66.2.2.2.1, cI r66.2.2.2.2.1, cI r66.2.2.2.2.2])]) (dt_c (de_repr hgd hr T.z_repr (de_call (d := .v (cB r67)) (ωp := []) (ωp' := []) (ωr := [(a2, .lst [(cL cI) r66.2.1, cI r66.2.2.1, cI r66.2.2.2.1, cI r66.2.2.2.2.1, cI r66.2.2.2.2.2])]) (ω2 := [(a2, .lst [(cL cI) r66.2.1, cI r66.2.2.1, cI r66.2.2.2.1, cI r66.2.2.2.2.1, cI r66.2.2.2.2.2])]) (ok_is_machine T) (hr.mono (by decide)) T.m_is_machine T.F_is_machine.kp T.b_is_machine (da_cons (de_var (d := .v r66.1) 10) da_nil) ⟨r66.1, r67, rfl, rfl, hr67, rfl⟩ (fun _ _ h => h) [0] [0]) hx68) (de_repr hgd hr T.z_repr (de_call (d := .v (cB r69)) (ωp := []) (ωp' := []) (ωr := [(a2, .lst [(cL cI) r66.2.1, cI r66.2.2.1, cI r66.2.2.2.1, cI r66.2.2.2.2.1, cI r66.2.2.2.2.2])]) (ω2 := [(a2, .lst [(cL cI) r66.2.1, cI r66.2.2.1, cI r66.2.2.2.1, cI r66.2.2.2.2.1, cI r66.2.2.2.2.2])]) (ok_law_is_machine T) (hr.mono (by decide)) T.m_law_is_machine T.F_law_is_machine.kp T.b_law_is_machine (da_cons (de_var (d := .v r66.1) 10) da_nil) ⟨r66.1, r69, rfl, rfl, hr69, rfl⟩ (fun _ _ h => h) [0] [0]) hx70) c_neS) (fun hk => ?_) (fun hk => ?_)
          · have hm := cnd_t hk hm
            have hq := some_i hm
            subst hq
            exact dss_ret (ω1 := []) (de_drop de_bl ⟨[], rfl, by decide⟩) (by first | exact ⟨rfl, .inl ⟨_, _, rfl⟩⟩ | exact ⟨⟨rfl, .inl ⟨_, _, rfl⟩⟩, fun z => z⟩ | exact ⟨⟨⟨rfl, .inl ⟨_, _, rfl⟩⟩, fun z => z⟩, fun z => z⟩ | exact ⟨⟨⟨⟨rfl, .inl ⟨_, _, rfl⟩⟩, fun z => z⟩, fun z => z⟩, fun z => z⟩)
          · have hm := cnd_f hk hm
            have hq := some_i hm
            subst hq
            exact dss_nil ⟨_, _, .inl rfl, ⟨.inr rfl, .inr rfl, .inr rfl, .inr rfl, .inr rfl, .inr rfl, .inr rfl, .inl rfl, .inl rfl, .inl rfl, .inl rfl, .inl rfl, .inl rfl, .inl rfl, trivial⟩, ⟨[0], rfl, by decide⟩⟩
        · intro s64 hrs64
          subst hrs64
          obtain ⟨r73, hr73, hm⟩ := bnd hm
          obtain ⟨x74, hx74, hm⟩ := bnd hm
          have hq := some_i hm
          subst hq
          exact dss_ret (ω1 := []) (de_drop (de_c (de_repr hgd hr T.z_repr (de_call (d := .v (cB r73)) (ωp := []) (ωp' := []) (ωr := [(a2, .lst [(cL cI) s64.1, cI s64.2.1, cI s64.2.2.1, cI s64.2.2.2.1, cI s64.2.2.2.2])]) (ω2 := [(a2, .lst [(cL cI) s64.1, cI s64.2.1, cI s64.2.2.1, cI s64.2.2.2.1, cI s64.2.2.2.2])]) (ok_is_machine T) (hr.mono (by decide)) T.m_is_machine T.F_is_machine.kp T.b_is_machine (da_cons (de_var (d := .v (cMach j12.1)) 3) da_nil) ⟨(cMach j12.1), r73, rfl, rfl, hr73, rfl⟩ (fun _ _ h => h) [0] [0]) hx74) (de_str ([84, 114, 117, 101] : Wd)) c_eqS) ⟨[], rfl, by decide⟩) (by first | exact ⟨rfl, rfl⟩ | exact ⟨⟨rfl, rfl⟩, fun z => z⟩ | exact ⟨⟨⟨rfl, rfl⟩, fun z => z⟩, fun z => z⟩ | exact ⟨⟨⟨⟨rfl, rfl⟩, fun z => z⟩, fun z => z⟩, fun z => z⟩)
        · intro q75 hrq75 o po
          subst hrq75
          have hq := some_i hm
          subst hq
          subst po
          exact ⟨rfl, rfl⟩
        · intro z hz
          subst hz
          cases hm
      · intro q76 hrq76 o po
        subst hrq76
        have hq := some_i hm
        subst hq
        subst po
        exact ⟨rfl, rfl⟩
      · intro z hz
        subst hz
        cases hm
end
end K44
end

section
set_option Elab.async false
set_option linter.all false
set_option maxRecDepth 100000
set_option maxHeartbeats 0
namespace K44
open PySem L2 Q TL PyProof.Rows
theorem all_mk {w : World} {K : PySem.W.Frag} {h : Heap} {mg : Str → Option Value} {fa : Addr} (X : K.In h) (G : h.Ns mainGlobals mg) (hfa : mg "law" = some (.ref fa))
    {f_law_start : Addr} {od_law_start an_law_start : Option Addr} {sl_law_start : Array (Option Value)} {oc_law_start kV_law_start dc_law_start pm_law_start cd_law_start ct_law_start : Value}
    {f_law_fill : Addr} {od_law_fill an_law_fill : Option Addr} {sl_law_fill : Array (Option Value)} {oc_law_fill kV_law_fill dc_law_fill pm_law_fill cd_law_fill ct_law_fill : Value}
    {f_law_take : Addr} {od_law_take an_law_take : Option Addr} {sl_law_take : Array (Option Value)} {oc_law_take kV_law_take dc_law_take pm_law_take cd_law_take ct_law_take : Value}
    {f_law_shuffled : Addr} {od_law_shuffled an_law_shuffled : Option Addr} {sl_law_shuffled : Array (Option Value)} {oc_law_shuffled kV_law_shuffled dc_law_shuffled pm_law_shuffled cd_law_shuffled ct_law_shuffled : Value}
    {f_law_word : Addr} {od_law_word an_law_word : Option Addr} {sl_law_word : Array (Option Value)} {oc_law_word kV_law_word dc_law_word pm_law_word cd_law_word ct_law_word : Value}
    {f_law_once : Addr} {od_law_once an_law_once : Option Addr} {sl_law_once : Array (Option Value)} {oc_law_once kV_law_once dc_law_once pm_law_once cd_law_once ct_law_once : Value}
    {f_law_machine : Addr} {od_law_machine an_law_machine : Option Addr} {sl_law_machine : Array (Option Value)} {oc_law_machine kV_law_machine dc_law_machine pm_law_machine cd_law_machine ct_law_machine : Value}
    {f_law_drawn : Addr} {od_law_drawn an_law_drawn : Option Addr} {sl_law_drawn : Array (Option Value)} {oc_law_drawn kV_law_drawn dc_law_drawn pm_law_drawn cd_law_drawn ct_law_drawn : Value}
    {f_law_lines : Addr} {od_law_lines an_law_lines : Option Addr} {sl_law_lines : Array (Option Value)} {oc_law_lines kV_law_lines dc_law_lines pm_law_lines cd_law_lines ct_law_lines : Value}
    {f_law_text : Addr} {od_law_text an_law_text : Option Addr} {sl_law_text : Array (Option Value)} {oc_law_text kV_law_text dc_law_text pm_law_text cd_law_text ct_law_text : Value}
    {f_law_number : Addr} {od_law_number an_law_number : Option Addr} {sl_law_number : Array (Option Value)} {oc_law_number kV_law_number dc_law_number pm_law_number cd_law_number ct_law_number : Value}
    {f_law_token : Addr} {od_law_token an_law_token : Option Addr} {sl_law_token : Array (Option Value)} {oc_law_token kV_law_token dc_law_token pm_law_token cd_law_token ct_law_token : Value}
    {f_law_line : Addr} {od_law_line an_law_line : Option Addr} {sl_law_line : Array (Option Value)} {oc_law_line kV_law_line dc_law_line pm_law_line cd_law_line ct_law_line : Value}
    {f_law_broken : Addr} {od_law_broken an_law_broken : Option Addr} {sl_law_broken : Array (Option Value)} {oc_law_broken kV_law_broken dc_law_broken pm_law_broken cd_law_broken ct_law_broken : Value}
    {f_law_is_state : Addr} {od_law_is_state an_law_is_state : Option Addr} {sl_law_is_state : Array (Option Value)} {oc_law_is_state kV_law_is_state dc_law_is_state pm_law_is_state cd_law_is_state ct_law_is_state : Value}
    {f_law_is_row : Addr} {od_law_is_row an_law_is_row : Option Addr} {sl_law_is_row : Array (Option Value)} {oc_law_is_row kV_law_is_row dc_law_is_row pm_law_is_row cd_law_is_row ct_law_is_row : Value}
    {f_law_is_machine : Addr} {od_law_is_machine an_law_is_machine : Option Addr} {sl_law_is_machine : Array (Option Value)} {oc_law_is_machine kV_law_is_machine dc_law_is_machine pm_law_is_machine cd_law_is_machine ct_law_is_machine : Value}
    {f_law_bent : Addr} {od_law_bent an_law_bent : Option Addr} {sl_law_bent : Array (Option Value)} {oc_law_bent kV_law_bent dc_law_bent pm_law_bent cd_law_bent ct_law_bent : Value}
    {f_is_word : Addr} {od_is_word an_is_word : Option Addr} {sl_is_word : Array (Option Value)} {oc_is_word kV_is_word dc_is_word pm_is_word cd_is_word ct_is_word : Value}
    {f_shown : Addr} {od_shown an_shown : Option Addr} {sl_shown : Array (Option Value)} {oc_shown kV_shown dc_shown pm_shown cd_shown ct_shown : Value}
    {f_show : Addr} {od_show an_show : Option Addr} {sl_show : Array (Option Value)} {oc_show kV_show dc_show pm_show cd_show ct_show : Value}
    {f_number_of : Addr} {od_number_of an_number_of : Option Addr} {sl_number_of : Array (Option Value)} {oc_number_of kV_number_of dc_number_of pm_number_of cd_number_of ct_number_of : Value}
    {f_word_of : Addr} {od_word_of an_word_of : Option Addr} {sl_word_of : Array (Option Value)} {oc_word_of kV_word_of dc_word_of pm_word_of cd_word_of ct_word_of : Value}
    {f_pair_of : Addr} {od_pair_of an_pair_of : Option Addr} {sl_pair_of : Array (Option Value)} {oc_pair_of kV_pair_of dc_pair_of pm_pair_of cd_pair_of ct_pair_of : Value}
    {f_edge_of : Addr} {od_edge_of an_edge_of : Option Addr} {sl_edge_of : Array (Option Value)} {oc_edge_of kV_edge_of dc_edge_of pm_edge_of cd_edge_of ct_edge_of : Value}
    {f_read : Addr} {od_read an_read : Option Addr} {sl_read : Array (Option Value)} {oc_read kV_read dc_read pm_read cd_read ct_read : Value}
    {f_law_due : Addr} {od_law_due an_law_due : Option Addr} {sl_law_due : Array (Option Value)} {oc_law_due kV_law_due dc_law_due pm_law_due cd_law_due ct_law_due : Value}
    {f_is_integer : Addr} {od_is_integer an_is_integer : Option Addr} {sl_is_integer : Array (Option Value)} {oc_is_integer kV_is_integer dc_is_integer pm_is_integer cd_is_integer ct_is_integer : Value}
    {f_is_ascending : Addr} {od_is_ascending an_is_ascending : Option Addr} {sl_is_ascending : Array (Option Value)} {oc_is_ascending kV_is_ascending dc_is_ascending pm_is_ascending cd_is_ascending ct_is_ascending : Value}
    {f_is_state : Addr} {od_is_state an_is_state : Option Addr} {sl_is_state : Array (Option Value)} {oc_is_state kV_is_state dc_is_state pm_is_state cd_is_state ct_is_state : Value}
    {f_are_pairs : Addr} {od_are_pairs an_are_pairs : Option Addr} {sl_are_pairs : Array (Option Value)} {oc_are_pairs kV_are_pairs dc_are_pairs pm_are_pairs cd_are_pairs ct_are_pairs : Value}
    {f_are_edges : Addr} {od_are_edges an_are_edges : Option Addr} {sl_are_edges : Array (Option Value)} {oc_are_edges kV_are_edges dc_are_edges pm_are_edges cd_are_edges ct_are_edges : Value}
    {f_is_machine : Addr} {od_is_machine an_is_machine : Option Addr} {sl_is_machine : Array (Option Value)} {oc_is_machine kV_is_machine dc_is_machine pm_is_machine cd_is_machine ct_is_machine : Value}
    {f_law : Addr} {od_law an_law : Option Addr} {sl_law : Array (Option Value)} {oc_law kV_law dc_law pm_law cd_law ct_law : Value}
    {C_ I_ N_ B_ cdA_ cc_ : Addr} {nm_ q_ : Str} {bs_ : List Value} {sn_ : List Str} {sub_ : List Value} {ab_ : Bool} {col_ : Option Bool} {dd_ cdd_ cld_ odI_ anI_ : Option Addr} {m0_ m1_ m2_ m3_ m5_ : Option Value} {ccs_ csl_ slI_ : Array (Option Value)} {ocI_ ctI_ ccl_ cl_ dcI_ pmI_ : Value} {vs_ : Array Value} {file_ : Str} {tf_ : Tok}
    {t_DIGITS : Tok}
    {t_LETTERS : Tok}
    {t_MOST_DIGITS : Tok}
    {t_NOTHING : Tok}
    (a_law_start : PySem.W.nsIn K mainGlobals "_law_start" = some (some (.ref f_law_start)))
    (l_law_start : K.lookup f_law_start = some ⟨oc_law_start, od_law_start, .func (PySem.W.fnOf "_law_start" "_law_start" (defArgs s_law_start) (defBody s_law_start) (defScope s_law_start) .none kV_law_start dc_law_start pm_law_start an_law_start cd_law_start ct_law_start), sl_law_start⟩)
    (c_law_start : PySem.W.codeIn K cd_law_start "_law_start" = true)
    (k_law_start : PySem.W.keepIn K (.ref f_law_start) = true)
    (a_law_fill : PySem.W.nsIn K mainGlobals "_law_fill" = some (some (.ref f_law_fill)))
    (l_law_fill : K.lookup f_law_fill = some ⟨oc_law_fill, od_law_fill, .func (PySem.W.fnOf "_law_fill" "_law_fill" (defArgs s_law_fill) (defBody s_law_fill) (defScope s_law_fill) .none kV_law_fill dc_law_fill pm_law_fill an_law_fill cd_law_fill ct_law_fill), sl_law_fill⟩)
    (c_law_fill : PySem.W.codeIn K cd_law_fill "_law_fill" = true)
    (k_law_fill : PySem.W.keepIn K (.ref f_law_fill) = true)
    (a_law_take : PySem.W.nsIn K mainGlobals "_law_take" = some (some (.ref f_law_take)))
    (l_law_take : K.lookup f_law_take = some ⟨oc_law_take, od_law_take, .func (PySem.W.fnOf "_law_take" "_law_take" (defArgs s_law_take) (defBody s_law_take) (defScope s_law_take) .none kV_law_take dc_law_take pm_law_take an_law_take cd_law_take ct_law_take), sl_law_take⟩)
    (c_law_take : PySem.W.codeIn K cd_law_take "_law_take" = true)
    (k_law_take : PySem.W.keepIn K (.ref f_law_take) = true)
    (a_law_shuffled : PySem.W.nsIn K mainGlobals "_law_shuffled" = some (some (.ref f_law_shuffled)))
    (l_law_shuffled : K.lookup f_law_shuffled = some ⟨oc_law_shuffled, od_law_shuffled, .func (PySem.W.fnOf "_law_shuffled" "_law_shuffled" (defArgs s_law_shuffled) (defBody s_law_shuffled) (defScope s_law_shuffled) .none kV_law_shuffled dc_law_shuffled pm_law_shuffled an_law_shuffled cd_law_shuffled ct_law_shuffled), sl_law_shuffled⟩)
    (c_law_shuffled : PySem.W.codeIn K cd_law_shuffled "_law_shuffled" = true)
    (k_law_shuffled : PySem.W.keepIn K (.ref f_law_shuffled) = true)
    (a_law_word : PySem.W.nsIn K mainGlobals "_law_word" = some (some (.ref f_law_word)))
    (l_law_word : K.lookup f_law_word = some ⟨oc_law_word, od_law_word, .func (PySem.W.fnOf "_law_word" "_law_word" (defArgs s_law_word) (defBody s_law_word) (defScope s_law_word) .none kV_law_word dc_law_word pm_law_word an_law_word cd_law_word ct_law_word), sl_law_word⟩)
    (c_law_word : PySem.W.codeIn K cd_law_word "_law_word" = true)
    (k_law_word : PySem.W.keepIn K (.ref f_law_word) = true)
    (a_law_once : PySem.W.nsIn K mainGlobals "_law_once" = some (some (.ref f_law_once)))
    (l_law_once : K.lookup f_law_once = some ⟨oc_law_once, od_law_once, .func (PySem.W.fnOf "_law_once" "_law_once" (defArgs s_law_once) (defBody s_law_once) (defScope s_law_once) .none kV_law_once dc_law_once pm_law_once an_law_once cd_law_once ct_law_once), sl_law_once⟩)
    (c_law_once : PySem.W.codeIn K cd_law_once "_law_once" = true)
    (k_law_once : PySem.W.keepIn K (.ref f_law_once) = true)
    (a_law_machine : PySem.W.nsIn K mainGlobals "_law_machine" = some (some (.ref f_law_machine)))
    (l_law_machine : K.lookup f_law_machine = some ⟨oc_law_machine, od_law_machine, .func (PySem.W.fnOf "_law_machine" "_law_machine" (defArgs s_law_machine) (defBody s_law_machine) (defScope s_law_machine) .none kV_law_machine dc_law_machine pm_law_machine an_law_machine cd_law_machine ct_law_machine), sl_law_machine⟩)
    (c_law_machine : PySem.W.codeIn K cd_law_machine "_law_machine" = true)
    (k_law_machine : PySem.W.keepIn K (.ref f_law_machine) = true)
    (a_law_drawn : PySem.W.nsIn K mainGlobals "_law_drawn" = some (some (.ref f_law_drawn)))
    (l_law_drawn : K.lookup f_law_drawn = some ⟨oc_law_drawn, od_law_drawn, .func (PySem.W.fnOf "_law_drawn" "_law_drawn" (defArgs s_law_drawn) (defBody s_law_drawn) (defScope s_law_drawn) .none kV_law_drawn dc_law_drawn pm_law_drawn an_law_drawn cd_law_drawn ct_law_drawn), sl_law_drawn⟩)
    (c_law_drawn : PySem.W.codeIn K cd_law_drawn "_law_drawn" = true)
    (k_law_drawn : PySem.W.keepIn K (.ref f_law_drawn) = true)
    (a_law_lines : PySem.W.nsIn K mainGlobals "_law_lines" = some (some (.ref f_law_lines)))
    (l_law_lines : K.lookup f_law_lines = some ⟨oc_law_lines, od_law_lines, .func (PySem.W.fnOf "_law_lines" "_law_lines" (defArgs s_law_lines) (defBody s_law_lines) (defScope s_law_lines) .none kV_law_lines dc_law_lines pm_law_lines an_law_lines cd_law_lines ct_law_lines), sl_law_lines⟩)
    (c_law_lines : PySem.W.codeIn K cd_law_lines "_law_lines" = true)
    (k_law_lines : PySem.W.keepIn K (.ref f_law_lines) = true)
    (a_law_text : PySem.W.nsIn K mainGlobals "_law_text" = some (some (.ref f_law_text)))
    (l_law_text : K.lookup f_law_text = some ⟨oc_law_text, od_law_text, .func (PySem.W.fnOf "_law_text" "_law_text" (defArgs s_law_text) (defBody s_law_text) (defScope s_law_text) .none kV_law_text dc_law_text pm_law_text an_law_text cd_law_text ct_law_text), sl_law_text⟩)
    (c_law_text : PySem.W.codeIn K cd_law_text "_law_text" = true)
    (k_law_text : PySem.W.keepIn K (.ref f_law_text) = true)
    (a_law_number : PySem.W.nsIn K mainGlobals "_law_number" = some (some (.ref f_law_number)))
    (l_law_number : K.lookup f_law_number = some ⟨oc_law_number, od_law_number, .func (PySem.W.fnOf "_law_number" "_law_number" (defArgs s_law_number) (defBody s_law_number) (defScope s_law_number) .none kV_law_number dc_law_number pm_law_number an_law_number cd_law_number ct_law_number), sl_law_number⟩)
    (c_law_number : PySem.W.codeIn K cd_law_number "_law_number" = true)
    (k_law_number : PySem.W.keepIn K (.ref f_law_number) = true)
    (a_law_token : PySem.W.nsIn K mainGlobals "_law_token" = some (some (.ref f_law_token)))
    (l_law_token : K.lookup f_law_token = some ⟨oc_law_token, od_law_token, .func (PySem.W.fnOf "_law_token" "_law_token" (defArgs s_law_token) (defBody s_law_token) (defScope s_law_token) .none kV_law_token dc_law_token pm_law_token an_law_token cd_law_token ct_law_token), sl_law_token⟩)
    (c_law_token : PySem.W.codeIn K cd_law_token "_law_token" = true)
    (k_law_token : PySem.W.keepIn K (.ref f_law_token) = true)
    (a_law_line : PySem.W.nsIn K mainGlobals "_law_line" = some (some (.ref f_law_line)))
    (l_law_line : K.lookup f_law_line = some ⟨oc_law_line, od_law_line, .func (PySem.W.fnOf "_law_line" "_law_line" (defArgs s_law_line) (defBody s_law_line) (defScope s_law_line) .none kV_law_line dc_law_line pm_law_line an_law_line cd_law_line ct_law_line), sl_law_line⟩)
    (c_law_line : PySem.W.codeIn K cd_law_line "_law_line" = true)
    (k_law_line : PySem.W.keepIn K (.ref f_law_line) = true)
    (a_law_broken : PySem.W.nsIn K mainGlobals "_law_broken" = some (some (.ref f_law_broken)))
    (l_law_broken : K.lookup f_law_broken = some ⟨oc_law_broken, od_law_broken, .func (PySem.W.fnOf "_law_broken" "_law_broken" (defArgs s_law_broken) (defBody s_law_broken) (defScope s_law_broken) .none kV_law_broken dc_law_broken pm_law_broken an_law_broken cd_law_broken ct_law_broken), sl_law_broken⟩)
    (c_law_broken : PySem.W.codeIn K cd_law_broken "_law_broken" = true)
    (k_law_broken : PySem.W.keepIn K (.ref f_law_broken) = true)
    (a_law_is_state : PySem.W.nsIn K mainGlobals "_law_is_state" = some (some (.ref f_law_is_state)))
    (l_law_is_state : K.lookup f_law_is_state = some ⟨oc_law_is_state, od_law_is_state, .func (PySem.W.fnOf "_law_is_state" "_law_is_state" (defArgs s_law_is_state) (defBody s_law_is_state) (defScope s_law_is_state) .none kV_law_is_state dc_law_is_state pm_law_is_state an_law_is_state cd_law_is_state ct_law_is_state), sl_law_is_state⟩)
    (c_law_is_state : PySem.W.codeIn K cd_law_is_state "_law_is_state" = true)
    (k_law_is_state : PySem.W.keepIn K (.ref f_law_is_state) = true)
    (a_law_is_row : PySem.W.nsIn K mainGlobals "_law_is_row" = some (some (.ref f_law_is_row)))
    (l_law_is_row : K.lookup f_law_is_row = some ⟨oc_law_is_row, od_law_is_row, .func (PySem.W.fnOf "_law_is_row" "_law_is_row" (defArgs s_law_is_row) (defBody s_law_is_row) (defScope s_law_is_row) .none kV_law_is_row dc_law_is_row pm_law_is_row an_law_is_row cd_law_is_row ct_law_is_row), sl_law_is_row⟩)
    (c_law_is_row : PySem.W.codeIn K cd_law_is_row "_law_is_row" = true)
    (k_law_is_row : PySem.W.keepIn K (.ref f_law_is_row) = true)
    (a_law_is_machine : PySem.W.nsIn K mainGlobals "_law_is_machine" = some (some (.ref f_law_is_machine)))
    (l_law_is_machine : K.lookup f_law_is_machine = some ⟨oc_law_is_machine, od_law_is_machine, .func (PySem.W.fnOf "_law_is_machine" "_law_is_machine" (defArgs s_law_is_machine) (defBody s_law_is_machine) (defScope s_law_is_machine) .none kV_law_is_machine dc_law_is_machine pm_law_is_machine an_law_is_machine cd_law_is_machine ct_law_is_machine), sl_law_is_machine⟩)
    (c_law_is_machine : PySem.W.codeIn K cd_law_is_machine "_law_is_machine" = true)
    (k_law_is_machine : PySem.W.keepIn K (.ref f_law_is_machine) = true)
    (a_law_bent : PySem.W.nsIn K mainGlobals "_law_bent" = some (some (.ref f_law_bent)))
    (l_law_bent : K.lookup f_law_bent = some ⟨oc_law_bent, od_law_bent, .func (PySem.W.fnOf "_law_bent" "_law_bent" (defArgs s_law_bent) (defBody s_law_bent) (defScope s_law_bent) .none kV_law_bent dc_law_bent pm_law_bent an_law_bent cd_law_bent ct_law_bent), sl_law_bent⟩)
    (c_law_bent : PySem.W.codeIn K cd_law_bent "_law_bent" = true)
    (k_law_bent : PySem.W.keepIn K (.ref f_law_bent) = true)
    (a_is_word : PySem.W.nsIn K mainGlobals "is_word" = some (some (.ref f_is_word)))
    (l_is_word : K.lookup f_is_word = some ⟨oc_is_word, od_is_word, .func (PySem.W.fnOf "is_word" "is_word" (defArgs s_is_word) (defBody s_is_word) (defScope s_is_word) .none kV_is_word dc_is_word pm_is_word an_is_word cd_is_word ct_is_word), sl_is_word⟩)
    (c_is_word : PySem.W.codeIn K cd_is_word "is_word" = true)
    (k_is_word : PySem.W.keepIn K (.ref f_is_word) = true)
    (a_shown : PySem.W.nsIn K mainGlobals "shown" = some (some (.ref f_shown)))
    (l_shown : K.lookup f_shown = some ⟨oc_shown, od_shown, .func (PySem.W.fnOf "shown" "shown" (defArgs s_shown) (defBody s_shown) (defScope s_shown) .none kV_shown dc_shown pm_shown an_shown cd_shown ct_shown), sl_shown⟩)
    (c_shown : PySem.W.codeIn K cd_shown "shown" = true)
    (k_shown : PySem.W.keepIn K (.ref f_shown) = true)
    (a_show : PySem.W.nsIn K mainGlobals "show" = some (some (.ref f_show)))
    (l_show : K.lookup f_show = some ⟨oc_show, od_show, .func (PySem.W.fnOf "show" "show" (defArgs s_show) (defBody s_show) (defScope s_show) .none kV_show dc_show pm_show an_show cd_show ct_show), sl_show⟩)
    (c_show : PySem.W.codeIn K cd_show "show" = true)
    (k_show : PySem.W.keepIn K (.ref f_show) = true)
    (a_number_of : PySem.W.nsIn K mainGlobals "number_of" = some (some (.ref f_number_of)))
    (l_number_of : K.lookup f_number_of = some ⟨oc_number_of, od_number_of, .func (PySem.W.fnOf "number_of" "number_of" (defArgs s_number_of) (defBody s_number_of) (defScope s_number_of) .none kV_number_of dc_number_of pm_number_of an_number_of cd_number_of ct_number_of), sl_number_of⟩)
    (c_number_of : PySem.W.codeIn K cd_number_of "number_of" = true)
    (k_number_of : PySem.W.keepIn K (.ref f_number_of) = true)
    (a_word_of : PySem.W.nsIn K mainGlobals "word_of" = some (some (.ref f_word_of)))
    (l_word_of : K.lookup f_word_of = some ⟨oc_word_of, od_word_of, .func (PySem.W.fnOf "word_of" "word_of" (defArgs s_word_of) (defBody s_word_of) (defScope s_word_of) .none kV_word_of dc_word_of pm_word_of an_word_of cd_word_of ct_word_of), sl_word_of⟩)
    (c_word_of : PySem.W.codeIn K cd_word_of "word_of" = true)
    (k_word_of : PySem.W.keepIn K (.ref f_word_of) = true)
    (a_pair_of : PySem.W.nsIn K mainGlobals "pair_of" = some (some (.ref f_pair_of)))
    (l_pair_of : K.lookup f_pair_of = some ⟨oc_pair_of, od_pair_of, .func (PySem.W.fnOf "pair_of" "pair_of" (defArgs s_pair_of) (defBody s_pair_of) (defScope s_pair_of) .none kV_pair_of dc_pair_of pm_pair_of an_pair_of cd_pair_of ct_pair_of), sl_pair_of⟩)
    (c_pair_of : PySem.W.codeIn K cd_pair_of "pair_of" = true)
    (k_pair_of : PySem.W.keepIn K (.ref f_pair_of) = true)
    (a_edge_of : PySem.W.nsIn K mainGlobals "edge_of" = some (some (.ref f_edge_of)))
    (l_edge_of : K.lookup f_edge_of = some ⟨oc_edge_of, od_edge_of, .func (PySem.W.fnOf "edge_of" "edge_of" (defArgs s_edge_of) (defBody s_edge_of) (defScope s_edge_of) .none kV_edge_of dc_edge_of pm_edge_of an_edge_of cd_edge_of ct_edge_of), sl_edge_of⟩)
    (c_edge_of : PySem.W.codeIn K cd_edge_of "edge_of" = true)
    (k_edge_of : PySem.W.keepIn K (.ref f_edge_of) = true)
    (a_read : PySem.W.nsIn K mainGlobals "read" = some (some (.ref f_read)))
    (l_read : K.lookup f_read = some ⟨oc_read, od_read, .func (PySem.W.fnOf "read" "read" (defArgs s_read) (defBody s_read) (defScope s_read) .none kV_read dc_read pm_read an_read cd_read ct_read), sl_read⟩)
    (c_read : PySem.W.codeIn K cd_read "read" = true)
    (k_read : PySem.W.keepIn K (.ref f_read) = true)
    (a_law_due : PySem.W.nsIn K mainGlobals "_law_due" = some (some (.ref f_law_due)))
    (l_law_due : K.lookup f_law_due = some ⟨oc_law_due, od_law_due, .func (PySem.W.fnOf "_law_due" "_law_due" (defArgs s_law_due) (defBody s_law_due) (defScope s_law_due) .none kV_law_due dc_law_due pm_law_due an_law_due cd_law_due ct_law_due), sl_law_due⟩)
    (c_law_due : PySem.W.codeIn K cd_law_due "_law_due" = true)
    (k_law_due : PySem.W.keepIn K (.ref f_law_due) = true)
    (a_is_integer : PySem.W.nsIn K mainGlobals "is_integer" = some (some (.ref f_is_integer)))
    (l_is_integer : K.lookup f_is_integer = some ⟨oc_is_integer, od_is_integer, .func (PySem.W.fnOf "is_integer" "is_integer" (defArgs s_is_integer) (defBody s_is_integer) (defScope s_is_integer) .none kV_is_integer dc_is_integer pm_is_integer an_is_integer cd_is_integer ct_is_integer), sl_is_integer⟩)
    (c_is_integer : PySem.W.codeIn K cd_is_integer "is_integer" = true)
    (k_is_integer : PySem.W.keepIn K (.ref f_is_integer) = true)
    (a_is_ascending : PySem.W.nsIn K mainGlobals "is_ascending" = some (some (.ref f_is_ascending)))
    (l_is_ascending : K.lookup f_is_ascending = some ⟨oc_is_ascending, od_is_ascending, .func (PySem.W.fnOf "is_ascending" "is_ascending" (defArgs s_is_ascending) (defBody s_is_ascending) (defScope s_is_ascending) .none kV_is_ascending dc_is_ascending pm_is_ascending an_is_ascending cd_is_ascending ct_is_ascending), sl_is_ascending⟩)
    (c_is_ascending : PySem.W.codeIn K cd_is_ascending "is_ascending" = true)
    (k_is_ascending : PySem.W.keepIn K (.ref f_is_ascending) = true)
    (a_is_state : PySem.W.nsIn K mainGlobals "is_state" = some (some (.ref f_is_state)))
    (l_is_state : K.lookup f_is_state = some ⟨oc_is_state, od_is_state, .func (PySem.W.fnOf "is_state" "is_state" (defArgs s_is_state) (defBody s_is_state) (defScope s_is_state) .none kV_is_state dc_is_state pm_is_state an_is_state cd_is_state ct_is_state), sl_is_state⟩)
    (c_is_state : PySem.W.codeIn K cd_is_state "is_state" = true)
    (k_is_state : PySem.W.keepIn K (.ref f_is_state) = true)
    (a_are_pairs : PySem.W.nsIn K mainGlobals "are_pairs" = some (some (.ref f_are_pairs)))
    (l_are_pairs : K.lookup f_are_pairs = some ⟨oc_are_pairs, od_are_pairs, .func (PySem.W.fnOf "are_pairs" "are_pairs" (defArgs s_are_pairs) (defBody s_are_pairs) (defScope s_are_pairs) .none kV_are_pairs dc_are_pairs pm_are_pairs an_are_pairs cd_are_pairs ct_are_pairs), sl_are_pairs⟩)
    (c_are_pairs : PySem.W.codeIn K cd_are_pairs "are_pairs" = true)
    (k_are_pairs : PySem.W.keepIn K (.ref f_are_pairs) = true)
    (a_are_edges : PySem.W.nsIn K mainGlobals "are_edges" = some (some (.ref f_are_edges)))
    (l_are_edges : K.lookup f_are_edges = some ⟨oc_are_edges, od_are_edges, .func (PySem.W.fnOf "are_edges" "are_edges" (defArgs s_are_edges) (defBody s_are_edges) (defScope s_are_edges) .none kV_are_edges dc_are_edges pm_are_edges an_are_edges cd_are_edges ct_are_edges), sl_are_edges⟩)
    (c_are_edges : PySem.W.codeIn K cd_are_edges "are_edges" = true)
    (k_are_edges : PySem.W.keepIn K (.ref f_are_edges) = true)
    (a_is_machine : PySem.W.nsIn K mainGlobals "is_machine" = some (some (.ref f_is_machine)))
    (l_is_machine : K.lookup f_is_machine = some ⟨oc_is_machine, od_is_machine, .func (PySem.W.fnOf "is_machine" "is_machine" (defArgs s_is_machine) (defBody s_is_machine) (defScope s_is_machine) .none kV_is_machine dc_is_machine pm_is_machine an_is_machine cd_is_machine ct_is_machine), sl_is_machine⟩)
    (c_is_machine : PySem.W.codeIn K cd_is_machine "is_machine" = true)
    (k_is_machine : PySem.W.keepIn K (.ref f_is_machine) = true)
    (a_law : PySem.W.nsIn K mainGlobals "law" = some (some (.ref f_law)))
    (l_law : K.lookup f_law = some ⟨oc_law, od_law, .func (PySem.W.fnOf "law" "law" (defArgs s_law) (defBody s_law) (defScope s_law) .none kV_law dc_law pm_law an_law cd_law ct_law), sl_law⟩)
    (c_law : PySem.W.codeIn K cd_law "law" = true)
    (k_law : PySem.W.keepIn K (.ref f_law) = true)
    (aC : PySem.W.nsIn K mainGlobals "TextError" = some (some (.ref C_)))
    (xC : K.lookup C_ = some (excClassObj nm_ q_ C_ N_ bs_ [.ref B_, .type "ValueError", .type "Exception", .type "BaseException", .type "object"] true sn_ sub_ ab_ col_ dd_ m0_ m1_ m2_ m3_ m5_ "ValueError.__new__"))
    (saC : PySem.W.findIn K (.ref C_) "__setattr__" = some (some (.builtin "object.__setattr__")))
    (gaC : PySem.W.findIn K (.ref C_) "__getattribute__" = some (some (.builtin "BaseException.__getattribute__")))
    (ggC : PySem.W.findIn K (.ref C_) "__getattr__" = some none)
    (nbC : PySem.W.findIn K (.ref C_) "line" = some none)
    (iC : PySem.W.findIn K (.ref C_) "__init__" = some (some (.ref I_)))
    (tI : PySem.W.typeIn K (.ref I_) = some (.type "function"))
    (lI : K.lookup I_ = some ⟨ocI_, odI_, .func (PySem.W.ksFn "__init__" "TextError.__init__" (defArgs (inClass (topS 2) 0)) (defBody (inClass (topS 2) 0)) (defScope (inClass (topS 2) 0)) .none .none dcI_ pmI_ anI_ (.ref cdA_) ctI_ cc_), slI_⟩)
    (cI_ : PySem.W.codeIn K (.ref cdA_) "TextError.__init__" = true)
    (xA : K.lookup cdA_ = some ⟨ccl_, cdd_, .fields vs_, ccs_⟩)
    (hvs : vs_[2]? = some (.str file_ tf_))
    (hfile : ((PySem.Challenge.pw_afterthought_k44_texts_and_forms.main.file : Str) == file_) = true)
    (xCell : K.lookup cc_ = some ⟨cl_, cld_, .cell (some (.ref C_)), csl_⟩)
    (kC : PySem.W.keepIn K (.ref C_) = true)
    (eC : PySem.W.subIn K (.ref C_) (.type "BaseException") = some true)
    (tC : PySem.W.typeIn K (.ref C_) = some (.type "type"))
    (hC : PySem.W.hasDictIn K C_ = true)
    (isC : PySem.W.isClsIn K C_ = true)
    (sC : PySem.W.subIn K (.ref C_) (.ref C_) = some true)
    (mV : PySem.W.mroIn K C_ (.type "ValueError") = some true)
    (mC : PySem.W.mroIn K C_ (.ref C_) = some true)
    (supC : PySem.W.ks_superIn K C_ C_ "__init__" = some (some (.builtin "ValueError.__init__")))
    (noS : PySem.W.nsIn K mainGlobals "super" = some none)
    (noT : PySem.W.nsIn K PySem.cStatics "thirdparty.any" = some none)
    (z_all : PySem.W.nsIn K mainGlobals "all" = some none)
    (z_bool : PySem.W.nsIn K mainGlobals "bool" = some none)
    (z_enumerate : PySem.W.nsIn K mainGlobals "enumerate" = some none)
    (z_int : PySem.W.nsIn K mainGlobals "int" = some none)
    (z_isinstance : PySem.W.nsIn K mainGlobals "isinstance" = some none)
    (z_len : PySem.W.nsIn K mainGlobals "len" = some none)
    (z_list : PySem.W.nsIn K mainGlobals "list" = some none)
    (z_max : PySem.W.nsIn K mainGlobals "max" = some none)
    (z_range : PySem.W.nsIn K mainGlobals "range" = some none)
    (z_repr : PySem.W.nsIn K mainGlobals "repr" = some none)
    (z_sorted : PySem.W.nsIn K mainGlobals "sorted" = some none)
    (z_str : PySem.W.nsIn K mainGlobals "str" = some none)
    (z_tuple : PySem.W.nsIn K mainGlobals "tuple" = some none)
    (z_zip : PySem.W.nsIn K mainGlobals "zip" = some none)
    (g_DIGITS : PySem.W.nsIn K mainGlobals "DIGITS" = some (some (.str (PySem.Str.ofString "0123456789") t_DIGITS)))
    (g_LETTERS : PySem.W.nsIn K mainGlobals "LETTERS" = some (some (.str (PySem.Str.ofString "abcdefghijklmnopqrstuvwxyz") t_LETTERS)))
    (g_MOST_DIGITS : PySem.W.nsIn K mainGlobals "MOST_DIGITS" = some (some (.int 4 t_MOST_DIGITS)))
    (g_NOTHING : PySem.W.nsIn K mainGlobals "NOTHING" = some (some (.str (PySem.Str.ofString "-") t_NOTHING))) :
    ∃ fd : FuncData, (∀ (s : Shared) (u : Value), BindsTo s fd ⟨[u], []⟩ [("script", u)]) ∧ ∀ base : Heap, K.In base → base.Ns mainGlobals mg → FnG PySem.Challenge.pw_afterthought_k44_texts_and_forms w K mg base CX0 5 fa fd ["script"] (SpC (Mir (A := (List Int)) (fun x => m_law x) (fun x => [scrD K x]) (fun x => []) (fun x t => .v (cB t)) (fun x t => []))) := by
  have e := hfa.symm.trans (PySem.W.mg_of X G a_law)
  have e2 : fa = f_law := by cases e; rfl
  rw [e2]
  clear e e2 hfa
  have T0 : ∃ T : Txt PySem.Challenge.pw_afterthought_k44_texts_and_forms K mg, T.f_law = f_law := ⟨{
    f_law_start := f_law_start
    d_law_start := _
    F_law_start := fun_mk (st := s_law_start) l_law_start c_law_start k_law_start
    b_law_start := (fun_mk (st := s_law_start) l_law_start c_law_start k_law_start).binds (ps := ["script"]) fun _ _ _ _ _ _ us hl => match us, hl with | [_], _ => rfl
    m_law_start := PySem.W.mg_of X G a_law_start
    f_law_fill := f_law_fill
    d_law_fill := _
    F_law_fill := fun_mk (st := s_law_fill) l_law_fill c_law_fill k_law_fill
    b_law_fill := (fun_mk (st := s_law_fill) l_law_fill c_law_fill k_law_fill).binds (ps := ["c"]) fun _ _ _ _ _ _ us hl => match us, hl with | [_], _ => rfl
    m_law_fill := PySem.W.mg_of X G a_law_fill
    f_law_take := f_law_take
    d_law_take := _
    F_law_take := fun_mk (st := s_law_take) l_law_take c_law_take k_law_take
    b_law_take := (fun_mk (st := s_law_take) l_law_take c_law_take k_law_take).binds (ps := ["c", "many"]) fun _ _ _ _ _ _ us hl => match us, hl with | [_, _], _ => rfl
    m_law_take := PySem.W.mg_of X G a_law_take
    f_law_shuffled := f_law_shuffled
    d_law_shuffled := _
    F_law_shuffled := fun_mk (st := s_law_shuffled) l_law_shuffled c_law_shuffled k_law_shuffled
    b_law_shuffled := (fun_mk (st := s_law_shuffled) l_law_shuffled c_law_shuffled k_law_shuffled).binds (ps := ["c", "items"]) fun _ _ _ _ _ _ us hl => match us, hl with | [_, _], _ => rfl
    m_law_shuffled := PySem.W.mg_of X G a_law_shuffled
    f_law_word := f_law_word
    d_law_word := _
    F_law_word := fun_mk (st := s_law_word) l_law_word c_law_word k_law_word
    b_law_word := (fun_mk (st := s_law_word) l_law_word c_law_word k_law_word).binds (ps := ["c", "letters", "most"]) fun _ _ _ _ _ _ us hl => match us, hl with | [_, _, _], _ => rfl
    m_law_word := PySem.W.mg_of X G a_law_word
    f_law_once := f_law_once
    d_law_once := _
    F_law_once := fun_mk (st := s_law_once) l_law_once c_law_once k_law_once
    b_law_once := (fun_mk (st := s_law_once) l_law_once c_law_once k_law_once).binds (ps := ["rows"]) fun _ _ _ _ _ _ us hl => match us, hl with | [_], _ => rfl
    m_law_once := PySem.W.mg_of X G a_law_once
    f_law_machine := f_law_machine
    d_law_machine := _
    F_law_machine := fun_mk (st := s_law_machine) l_law_machine c_law_machine k_law_machine
    b_law_machine := (fun_mk (st := s_law_machine) l_law_machine c_law_machine k_law_machine).binds (ps := ["c", "parts"]) fun _ _ _ _ _ _ us hl => match us, hl with | [_, _], _ => rfl
    m_law_machine := PySem.W.mg_of X G a_law_machine
    f_law_drawn := f_law_drawn
    d_law_drawn := _
    F_law_drawn := fun_mk (st := s_law_drawn) l_law_drawn c_law_drawn k_law_drawn
    b_law_drawn := (fun_mk (st := s_law_drawn) l_law_drawn c_law_drawn k_law_drawn).binds (ps := ["c", "reads", "writes", "many"]) fun _ _ _ _ _ _ us hl => match us, hl with | [_, _, _, _], _ => rfl
    m_law_drawn := PySem.W.mg_of X G a_law_drawn
    f_law_lines := f_law_lines
    d_law_lines := _
    F_law_lines := fun_mk (st := s_law_lines) l_law_lines c_law_lines k_law_lines
    b_law_lines := (fun_mk (st := s_law_lines) l_law_lines c_law_lines k_law_lines).binds (ps := ["machine"]) fun _ _ _ _ _ _ us hl => match us, hl with | [_], _ => rfl
    m_law_lines := PySem.W.mg_of X G a_law_lines
    f_law_text := f_law_text
    d_law_text := _
    F_law_text := fun_mk (st := s_law_text) l_law_text c_law_text k_law_text
    b_law_text := (fun_mk (st := s_law_text) l_law_text c_law_text k_law_text).binds (ps := ["c", "lines"]) fun _ _ _ _ _ _ us hl => match us, hl with | [_, _], _ => rfl
    m_law_text := PySem.W.mg_of X G a_law_text
    f_law_number := f_law_number
    d_law_number := _
    F_law_number := fun_mk (st := s_law_number) l_law_number c_law_number k_law_number
    b_law_number := (fun_mk (st := s_law_number) l_law_number c_law_number k_law_number).binds (ps := ["token", "most"]) fun _ _ _ _ _ _ us hl => match us, hl with | [_, _], _ => rfl
    m_law_number := PySem.W.mg_of X G a_law_number
    f_law_token := f_law_token
    d_law_token := _
    F_law_token := fun_mk (st := s_law_token) l_law_token c_law_token k_law_token
    b_law_token := (fun_mk (st := s_law_token) l_law_token c_law_token k_law_token).binds (ps := ["token"]) fun _ _ _ _ _ _ us hl => match us, hl with | [_], _ => rfl
    m_law_token := PySem.W.mg_of X G a_law_token
    f_law_line := f_law_line
    d_law_line := _
    F_law_line := fun_mk (st := s_law_line) l_law_line c_law_line k_law_line
    b_law_line := (fun_mk (st := s_law_line) l_law_line c_law_line k_law_line).binds (ps := ["tokens", "many"]) fun _ _ _ _ _ _ us hl => match us, hl with | [_, _], _ => rfl
    m_law_line := PySem.W.mg_of X G a_law_line
    f_law_broken := f_law_broken
    d_law_broken := _
    F_law_broken := fun_mk (st := s_law_broken) l_law_broken c_law_broken k_law_broken
    b_law_broken := (fun_mk (st := s_law_broken) l_law_broken c_law_broken k_law_broken).binds (ps := ["c", "lines"]) fun _ _ _ _ _ _ us hl => match us, hl with | [_, _], _ => rfl
    m_law_broken := PySem.W.mg_of X G a_law_broken
    f_law_is_state := f_law_is_state
    d_law_is_state := _
    F_law_is_state := fun_mk (st := s_law_is_state) l_law_is_state c_law_is_state k_law_is_state
    b_law_is_state := (fun_mk (st := s_law_is_state) l_law_is_state c_law_is_state k_law_is_state).binds (ps := ["value", "many"]) fun _ _ _ _ _ _ us hl => match us, hl with | [_, _], _ => rfl
    m_law_is_state := PySem.W.mg_of X G a_law_is_state
    f_law_is_row := f_law_is_row
    d_law_is_row := _
    F_law_is_row := fun_mk (st := s_law_is_row) l_law_is_row c_law_is_row k_law_is_row
    b_law_is_row := (fun_mk (st := s_law_is_row) l_law_is_row c_law_is_row k_law_is_row).binds (ps := ["row", "many", "size"]) fun _ _ _ _ _ _ us hl => match us, hl with | [_, _, _], _ => rfl
    m_law_is_row := PySem.W.mg_of X G a_law_is_row
    f_law_is_machine := f_law_is_machine
    d_law_is_machine := _
    F_law_is_machine := fun_mk (st := s_law_is_machine) l_law_is_machine c_law_is_machine k_law_is_machine
    b_law_is_machine := (fun_mk (st := s_law_is_machine) l_law_is_machine c_law_is_machine k_law_is_machine).binds (ps := ["value"]) fun _ _ _ _ _ _ us hl => match us, hl with | [_], _ => rfl
    m_law_is_machine := PySem.W.mg_of X G a_law_is_machine
    f_law_bent := f_law_bent
    d_law_bent := _
    F_law_bent := fun_mk (st := s_law_bent) l_law_bent c_law_bent k_law_bent
    b_law_bent := (fun_mk (st := s_law_bent) l_law_bent c_law_bent k_law_bent).binds (ps := ["c", "machine"]) fun _ _ _ _ _ _ us hl => match us, hl with | [_, _], _ => rfl
    m_law_bent := PySem.W.mg_of X G a_law_bent
    f_is_word := f_is_word
    d_is_word := _
    F_is_word := fun_mk (st := s_is_word) l_is_word c_is_word k_is_word
    b_is_word := (fun_mk (st := s_is_word) l_is_word c_is_word k_is_word).binds (ps := ["value"]) fun _ _ _ _ _ _ us hl => match us, hl with | [_], _ => rfl
    m_is_word := PySem.W.mg_of X G a_is_word
    f_shown := f_shown
    d_shown := _
    F_shown := fun_mk (st := s_shown) l_shown c_shown k_shown
    b_shown := (fun_mk (st := s_shown) l_shown c_shown k_shown).binds (ps := ["word"]) fun _ _ _ _ _ _ us hl => match us, hl with | [_], _ => rfl
    m_shown := PySem.W.mg_of X G a_shown
    f_show := f_show
    d_show := _
    F_show := fun_mk (st := s_show) l_show c_show k_show
    b_show := (fun_mk (st := s_show) l_show c_show k_show).binds (ps := ["machine"]) fun _ _ _ _ _ _ us hl => match us, hl with | [_], _ => rfl
    m_show := PySem.W.mg_of X G a_show
    f_number_of := f_number_of
    d_number_of := _
    F_number_of := fun_mk (st := s_number_of) l_number_of c_number_of k_number_of
    b_number_of := (fun_mk (st := s_number_of) l_number_of c_number_of k_number_of).binds (ps := ["token"]) fun _ _ _ _ _ _ us hl => match us, hl with | [_], _ => rfl
    m_number_of := PySem.W.mg_of X G a_number_of
    f_word_of := f_word_of
    d_word_of := _
    F_word_of := fun_mk (st := s_word_of) l_word_of c_word_of k_word_of
    b_word_of := (fun_mk (st := s_word_of) l_word_of c_word_of k_word_of).binds (ps := ["token"]) fun _ _ _ _ _ _ us hl => match us, hl with | [_], _ => rfl
    m_word_of := PySem.W.mg_of X G a_word_of
    f_pair_of := f_pair_of
    d_pair_of := _
    F_pair_of := fun_mk (st := s_pair_of) l_pair_of c_pair_of k_pair_of
    b_pair_of := (fun_mk (st := s_pair_of) l_pair_of c_pair_of k_pair_of).binds (ps := ["tokens", "many"]) fun _ _ _ _ _ _ us hl => match us, hl with | [_, _], _ => rfl
    m_pair_of := PySem.W.mg_of X G a_pair_of
    f_edge_of := f_edge_of
    d_edge_of := _
    F_edge_of := fun_mk (st := s_edge_of) l_edge_of c_edge_of k_edge_of
    b_edge_of := (fun_mk (st := s_edge_of) l_edge_of c_edge_of k_edge_of).binds (ps := ["tokens", "many"]) fun _ _ _ _ _ _ us hl => match us, hl with | [_, _], _ => rfl
    m_edge_of := PySem.W.mg_of X G a_edge_of
    f_read := f_read
    d_read := _
    F_read := fun_mk (st := s_read) l_read c_read k_read
    b_read := (fun_mk (st := s_read) l_read c_read k_read).binds (ps := ["text"]) fun _ _ _ _ _ _ us hl => match us, hl with | [_], _ => rfl
    m_read := PySem.W.mg_of X G a_read
    f_law_due := f_law_due
    d_law_due := _
    F_law_due := fun_mk (st := s_law_due) l_law_due c_law_due k_law_due
    b_law_due := (fun_mk (st := s_law_due) l_law_due c_law_due k_law_due).binds (ps := ["text"]) fun _ _ _ _ _ _ us hl => match us, hl with | [_], _ => rfl
    m_law_due := PySem.W.mg_of X G a_law_due
    f_is_integer := f_is_integer
    d_is_integer := _
    F_is_integer := fun_mk (st := s_is_integer) l_is_integer c_is_integer k_is_integer
    b_is_integer := (fun_mk (st := s_is_integer) l_is_integer c_is_integer k_is_integer).binds (ps := ["value"]) fun _ _ _ _ _ _ us hl => match us, hl with | [_], _ => rfl
    m_is_integer := PySem.W.mg_of X G a_is_integer
    f_is_ascending := f_is_ascending
    d_is_ascending := _
    F_is_ascending := fun_mk (st := s_is_ascending) l_is_ascending c_is_ascending k_is_ascending
    b_is_ascending := (fun_mk (st := s_is_ascending) l_is_ascending c_is_ascending k_is_ascending).binds (ps := ["values"]) fun _ _ _ _ _ _ us hl => match us, hl with | [_], _ => rfl
    m_is_ascending := PySem.W.mg_of X G a_is_ascending
    f_is_state := f_is_state
    d_is_state := _
    F_is_state := fun_mk (st := s_is_state) l_is_state c_is_state k_is_state
    b_is_state := (fun_mk (st := s_is_state) l_is_state c_is_state k_is_state).binds (ps := ["value", "many"]) fun _ _ _ _ _ _ us hl => match us, hl with | [_, _], _ => rfl
    m_is_state := PySem.W.mg_of X G a_is_state
    f_are_pairs := f_are_pairs
    d_are_pairs := _
    F_are_pairs := fun_mk (st := s_are_pairs) l_are_pairs c_are_pairs k_are_pairs
    b_are_pairs := (fun_mk (st := s_are_pairs) l_are_pairs c_are_pairs k_are_pairs).binds (ps := ["value", "many"]) fun _ _ _ _ _ _ us hl => match us, hl with | [_, _], _ => rfl
    m_are_pairs := PySem.W.mg_of X G a_are_pairs
    f_are_edges := f_are_edges
    d_are_edges := _
    F_are_edges := fun_mk (st := s_are_edges) l_are_edges c_are_edges k_are_edges
    b_are_edges := (fun_mk (st := s_are_edges) l_are_edges c_are_edges k_are_edges).binds (ps := ["value", "many"]) fun _ _ _ _ _ _ us hl => match us, hl with | [_, _], _ => rfl
    m_are_edges := PySem.W.mg_of X G a_are_edges
    f_is_machine := f_is_machine
    d_is_machine := _
    F_is_machine := fun_mk (st := s_is_machine) l_is_machine c_is_machine k_is_machine
    b_is_machine := (fun_mk (st := s_is_machine) l_is_machine c_is_machine k_is_machine).binds (ps := ["value"]) fun _ _ _ _ _ _ us hl => match us, hl with | [_], _ => rfl
    m_is_machine := PySem.W.mg_of X G a_is_machine
    f_law := f_law
    d_law := _
    F_law := fun_mk (st := s_law) l_law c_law k_law
    b_law := (fun_mk (st := s_law) l_law c_law k_law).binds (ps := ["script"]) fun _ _ _ _ _ _ us hl => match us, hl with | [_], _ => rfl
    m_law := PySem.W.mg_of X G a_law
    c_TextError := C_
    i_TextError := I_
    E_TextError := { gC := PySem.W.mg_of X G aC, oex := ⟨⟨nm_, q_, N_, bs_, _, sn_, sub_, ab_, col_, dd_, m0_, m1_, m2_, m3_, m5_, xC, rfl⟩, saC, eC, tC, kC⟩, ga := gaC, gg := ggC, noN := nbC, iC := iC, tI := tI, hdC := hC, te := exm_self eC isC tC sC, mroV := mV, mroC := mC, sup := supC, noS := PySem.W.mg_none_of X G noS, noT := noT, fld1 := by decide, fld2 := by decide, top := by decide +kernel, fn := ⟨ocI_, ctI_, ccl_, cl_, dcI_, pmI_, odI_, anI_, cdd_, cld_, slI_, ccs_, csl_, cdA_, cc_, vs_, file_, tf_, defScope (inClass (topS 2) 0), _, _, _, _, _, _, _, _, _, _, _, _, _, lI, cI_, xA, hvs, hfile, xCell, by decide +kernel, ⟨_, fun _ _ _ _ => rfl⟩, fun _ _ _ _ => rfl, fun _ _ _ _ => rfl, fun _ _ _ _ => rfl, fun _ _ => rfl⟩ }
    z_all := PySem.W.mg_none_of X G z_all
    z_bool := PySem.W.mg_none_of X G z_bool
    z_enumerate := PySem.W.mg_none_of X G z_enumerate
    z_int := PySem.W.mg_none_of X G z_int
    z_isinstance := PySem.W.mg_none_of X G z_isinstance
    z_len := PySem.W.mg_none_of X G z_len
    z_list := PySem.W.mg_none_of X G z_list
    z_max := PySem.W.mg_none_of X G z_max
    z_range := PySem.W.mg_none_of X G z_range
    z_repr := PySem.W.mg_none_of X G z_repr
    z_sorted := PySem.W.mg_none_of X G z_sorted
    z_str := PySem.W.mg_none_of X G z_str
    z_tuple := PySem.W.mg_none_of X G z_tuple
    z_zip := PySem.W.mg_none_of X G z_zip
    g_DIGITS := ⟨_, PySem.W.mg_of X G g_DIGITS⟩
    g_LETTERS := ⟨_, PySem.W.mg_of X G g_LETTERS⟩
    g_MOST_DIGITS := ⟨_, PySem.W.mg_of X G g_MOST_DIGITS⟩
    g_NOTHING := ⟨_, PySem.W.mg_of X G g_NOTHING⟩ }, rfl⟩
  obtain ⟨T, e⟩ := T0
  rw [← e]
  refine ⟨T.d_law, fun s u => ?_, fun base _ _ => ok_law T⟩
  obtain ⟨_, _, _, _, _, _, _, _, _, h, _, _⟩ := T.F_law.ex
  rw [h]
  exact .of_eq rfl
end K44
end

section
set_option Elab.async false
set_option linter.all false
open PySem PySem.W PyProof.Rows
set_option maxRecDepth 100000 in
set_option maxHeartbeats 0 in
open_top K44_head for PySem.Challenge.rw_afterthought_k44_texts_and_forms
open L2 Q TL K44 in
set_option maxRecDepth 100000 in
set_option maxHeartbeats 0 in
theorem K44_end (hlaw : ∀ ns : List Int, ns.length ≤ 63 → K44.m_law ns = some true) : PySem.Challenge.rw_afterthought_k44_texts_and_forms.Holds := by
  refine K44_head (Q.walkG (n := 63) (k := 5) (x := "script") (R := fun _ K => Mir (A := (List Int)) (fun x => m_law x) (fun x => [scrD K x]) (fun x => []) (fun x t => .v (cB t)) (fun x t => [])) rfl (by decide) rfl ⟨rfl, by decide, by decide⟩ (fun w h Y => PySem.W.kIn_of Y) ?F ?S)
  case S => exact fun w ns hl => ⟨_, ⟨ns, true, rfl, rfl, hlaw ns hl, rfl⟩, fun _ _ h => h.1⟩
  case F =>
    intro w mg fa h KX G hmg
    refine' K44.all_mk KX G hmg ?a_law_start ?l_law_start ?c_law_start ?k_law_start ?a_law_fill ?l_law_fill ?c_law_fill ?k_law_fill ?a_law_take ?l_law_take ?c_law_take ?k_law_take ?a_law_shuffled ?l_law_shuffled ?c_law_shuffled ?k_law_shuffled ?a_law_word ?l_law_word ?c_law_word ?k_law_word ?a_law_once ?l_law_once ?c_law_once ?k_law_once ?a_law_machine ?l_law_machine ?c_law_machine ?k_law_machine ?a_law_drawn ?l_law_drawn ?c_law_drawn ?k_law_drawn ?a_law_lines ?l_law_lines ?c_law_lines ?k_law_lines ?a_law_text ?l_law_text ?c_law_text ?k_law_text ?a_law_number ?l_law_number ?c_law_number ?k_law_number ?a_law_token ?l_law_token ?c_law_token ?k_law_token ?a_law_line ?l_law_line ?c_law_line ?k_law_line ?a_law_broken ?l_law_broken ?c_law_broken ?k_law_broken ?a_law_is_state ?l_law_is_state ?c_law_is_state ?k_law_is_state ?a_law_is_row ?l_law_is_row ?c_law_is_row ?k_law_is_row ?a_law_is_machine ?l_law_is_machine ?c_law_is_machine ?k_law_is_machine ?a_law_bent ?l_law_bent ?c_law_bent ?k_law_bent ?a_is_word ?l_is_word ?c_is_word ?k_is_word ?a_shown ?l_shown ?c_shown ?k_shown ?a_show ?l_show ?c_show ?k_show ?a_number_of ?l_number_of ?c_number_of ?k_number_of ?a_word_of ?l_word_of ?c_word_of ?k_word_of ?a_pair_of ?l_pair_of ?c_pair_of ?k_pair_of ?a_edge_of ?l_edge_of ?c_edge_of ?k_edge_of ?a_read ?l_read ?c_read ?k_read ?a_law_due ?l_law_due ?c_law_due ?k_law_due ?a_is_integer ?l_is_integer ?c_is_integer ?k_is_integer ?a_is_ascending ?l_is_ascending ?c_is_ascending ?k_is_ascending ?a_is_state ?l_is_state ?c_is_state ?k_is_state ?a_are_pairs ?l_are_pairs ?c_are_pairs ?k_are_pairs ?a_are_edges ?l_are_edges ?c_are_edges ?k_are_edges ?a_is_machine ?l_is_machine ?c_is_machine ?k_is_machine ?a_law ?l_law ?c_law ?k_law ?aC ?xC ?saC ?gaC ?ggC ?nbC ?iC ?tI ?lI ?cI_ ?xA ?hvs ?hfile ?xCell ?kC ?eC ?tC ?hC ?isC ?sC ?mV ?mC ?supC ?noS ?noT ?z_all ?z_bool ?z_enumerate ?z_int ?z_isinstance ?z_len ?z_list ?z_max ?z_range ?z_repr ?z_sorted ?z_str ?z_tuple ?z_zip ?g_DIGITS ?g_LETTERS ?g_MOST_DIGITS ?g_NOTHING
    (case a_law_start => k_is)
    (case l_law_start => k_is)
    (case c_law_start => k_is)
    (case k_law_start => k_is)
    (case a_law_fill => k_is)
    (case l_law_fill => k_is)
    (case c_law_fill => k_is)
    (case k_law_fill => k_is)
    (case a_law_take => k_is)
    (case l_law_take => k_is)
    (case c_law_take => k_is)
    (case k_law_take => k_is)
    (case a_law_shuffled => k_is)
    (case l_law_shuffled => k_is)
    (case c_law_shuffled => k_is)
    (case k_law_shuffled => k_is)
    (case a_law_word => k_is)
    (case l_law_word => k_is)
    (case c_law_word => k_is)
    (case k_law_word => k_is)
    (case a_law_once => k_is)
    (case l_law_once => k_is)
    (case c_law_once => k_is)
    (case k_law_once => k_is)
    (case a_law_machine => k_is)
    (case l_law_machine => k_is)
    (case c_law_machine => k_is)
    (case k_law_machine => k_is)
    (case a_law_drawn => k_is)
    (case l_law_drawn => k_is)
    (case c_law_drawn => k_is)
    (case k_law_drawn => k_is)
    (case a_law_lines => k_is)
    (case l_law_lines => k_is)
    (case c_law_lines => k_is)
    (case k_law_lines => k_is)
    (case a_law_text => k_is)
    (case l_law_text => k_is)
    (case c_law_text => k_is)
    (case k_law_text => k_is)
    (case a_law_number => k_is)
    (case l_law_number => k_is)
    (case c_law_number => k_is)
    (case k_law_number => k_is)
    (case a_law_token => k_is)
    (case l_law_token => k_is)
    (case c_law_token => k_is)
    (case k_law_token => k_is)
    (case a_law_line => k_is)
    (case l_law_line => k_is)
    (case c_law_line => k_is)
    (case k_law_line => k_is)
    (case a_law_broken => k_is)
    (case l_law_broken => k_is)
    (case c_law_broken => k_is)
    (case k_law_broken => k_is)
    (case a_law_is_state => k_is)
    (case l_law_is_state => k_is)
    (case c_law_is_state => k_is)
    (case k_law_is_state => k_is)
    (case a_law_is_row => k_is)
    (case l_law_is_row => k_is)
    (case c_law_is_row => k_is)
    (case k_law_is_row => k_is)
    (case a_law_is_machine => k_is)
    (case l_law_is_machine => k_is)
    (case c_law_is_machine => k_is)
    (case k_law_is_machine => k_is)
    (case a_law_bent => k_is)
    (case l_law_bent => k_is)
    (case c_law_bent => k_is)
    (case k_law_bent => k_is)
    (case a_is_word => k_is)
    (case l_is_word => k_is)
    (case c_is_word => k_is)
    (case k_is_word => k_is)
    (case a_shown => k_is)
    (case l_shown => k_is)
    (case c_shown => k_is)
    (case k_shown => k_is)
    (case a_show => k_is)
    (case l_show => k_is)
    (case c_show => k_is)
    (case k_show => k_is)
    (case a_number_of => k_is)
    (case l_number_of => k_is)
    (case c_number_of => k_is)
    (case k_number_of => k_is)
    (case a_word_of => k_is)
    (case l_word_of => k_is)
    (case c_word_of => k_is)
    (case k_word_of => k_is)
    (case a_pair_of => k_is)
    (case l_pair_of => k_is)
    (case c_pair_of => k_is)
    (case k_pair_of => k_is)
    (case a_edge_of => k_is)
    (case l_edge_of => k_is)
    (case c_edge_of => k_is)
    (case k_edge_of => k_is)
    (case a_read => k_is)
    (case l_read => k_is)
    (case c_read => k_is)
    (case k_read => k_is)
    (case a_law_due => k_is)
    (case l_law_due => k_is)
    (case c_law_due => k_is)
    (case k_law_due => k_is)
    (case a_is_integer => k_is)
    (case l_is_integer => k_is)
    (case c_is_integer => k_is)
    (case k_is_integer => k_is)
    (case a_is_ascending => k_is)
    (case l_is_ascending => k_is)
    (case c_is_ascending => k_is)
    (case k_is_ascending => k_is)
    (case a_is_state => k_is)
    (case l_is_state => k_is)
    (case c_is_state => k_is)
    (case k_is_state => k_is)
    (case a_are_pairs => k_is)
    (case l_are_pairs => k_is)
    (case c_are_pairs => k_is)
    (case k_are_pairs => k_is)
    (case a_are_edges => k_is)
    (case l_are_edges => k_is)
    (case c_are_edges => k_is)
    (case k_are_edges => k_is)
    (case a_is_machine => k_is)
    (case l_is_machine => k_is)
    (case c_is_machine => k_is)
    (case k_is_machine => k_is)
    (case a_law => k_is)
    (case l_law => k_is)
    (case c_law => k_is)
    (case k_law => k_is)
    (case aC => k_is)
    (case xC => k_is)
    (case saC => k_is)
    (case gaC => k_is)
    (case ggC => k_is)
    (case nbC => k_is)
    (case iC => k_is)
    (case tI => k_is)
    (case lI => k_is)
    (case cI_ => k_is)
    (case xA => k_is)
    (case hvs => first | rfl | k_is | decide +kernel)
    (case hfile => first | rfl | k_is | decide +kernel)
    (case xCell => k_is)
    (case kC => k_is)
    (case eC => k_is)
    (case tC => k_is)
    (case hC => k_is)
    (case isC => k_is)
    (case sC => first | rfl | k_is | decide +kernel)
    (case mV => first | rfl | k_is | decide +kernel)
    (case mC => first | rfl | k_is | decide +kernel)
    (case supC => first | rfl | k_is | decide +kernel)
    (case noS => k_is)
    (case noT => k_is)
    (case z_all => k_is)
    (case z_bool => k_is)
    (case z_enumerate => k_is)
    (case z_int => k_is)
    (case z_isinstance => k_is)
    (case z_len => k_is)
    (case z_list => k_is)
    (case z_max => k_is)
    (case z_range => k_is)
    (case z_repr => k_is)
    (case z_sorted => k_is)
    (case z_str => k_is)
    (case z_tuple => k_is)
    (case z_zip => k_is)
    (case g_DIGITS => k_is)
    (case g_LETTERS => k_is)
    (case g_MOST_DIGITS => k_is)
    (case g_NOTHING => k_is)
end

section
set_option Elab.async false
set_option linter.all false
set_option maxRecDepth 100000
set_option maxHeartbeats 4000000
/-! k44, plain: what is drawn. -/
namespace K44
open PySem L2 Q TL
def Ok (c : CS) : Prop := 0 ≤ c.2.1
theorem start_ok (ns : List Int) (h : ns.length ≤ 63) : wp (m_law_start ns) Ok := by
  unfold m_law_start
  exact wp_gd (Nat.le_trans h (by decide)) ⟨_, rfl, Int.le_refl 0⟩
theorem fill_ok {c : CS} (h : Ok c) : wp (m_law_fill c) fun r => Ok r.2 := by
  obtain ⟨cells, at_, num, cnt, b⟩ := c
  unfold m_law_fill
  refine wp_lt (wp_lt ?_)
  refine wp_bind (R := fun x => match x with | .nx j => Ok j.2 | .bk _ => False | .rt q => Ok q.2) (wp_cnd (fun hc => ?_) fun _ => ⟨_, rfl, h⟩) fun x hx => ?_
  · obtain ⟨x, h1, _⟩ := atI_in h (of_decide_eq_true hc)
    have h' : 0 ≤ at_ := h
    refine wp_eq h1 (wp_eq h1 (wp_lt (wp_lt ?_)))
    exact wp_cnd (fun _ => ⟨_, rfl, (by show 0 ≤ at_ + 1; omega)⟩) fun _ => ⟨_, rfl, (by show 0 ≤ at_ + 1; omega)⟩
  · cases x with
    | nx j =>
      show wp (Option.bind _ _) _
      refine wp_bind (R := fun _ => True) (wp_cnd (fun hc => ?_) fun _ => ⟨_, rfl, trivial⟩) fun v _ => wp_lt (wp_gd ?_ ⟨_, rfl, hx⟩)
      · have hne : j.2.1 ≠ [] := by
          intro e
          rw [e] at hc
          cases hc
        exact wp_eq (atI_last hne) ⟨_, rfl, trivial⟩
      · have h1 := Int.emod_nonneg (v * 48271 + j.2.2.2.2.1 * 69621) (show (2147483647 : Int) ≠ 0 by decide)
        have h2 := Int.emod_lt_of_pos (v * 48271 + j.2.2.2.2.1 * 69621) (show (0 : Int) < 2147483647 by decide)
        rw [decide_eq_true (by omega), Bool.true_or]
    | bk _ => exact hx.elim
    | rt q => exact ⟨_, rfl, hx⟩
theorem take_ok {c : CS} {many : Int} (h : Ok c) (h0 : 0 < many) (h1 : many < 1073741824) : wp (m_law_take c many) fun r => 0 ≤ r.1 ∧ r.1 < many ∧ Ok r.2 := by
  unfold m_law_take
  refine wp_bind (R := Ok) (wp_cnd (fun _ => wp_bind (fill_ok h) fun r hr => ⟨_, rfl, hr⟩) fun _ => ⟨_, rfl, h⟩) fun j hj => ?_
  exact wp_gd h0 (wp_lt (wp_gd ⟨h0, h1⟩ (wp_lt ⟨_, rfl, Int.emod_nonneg _ (by omega), Int.emod_lt_of_pos _ h0, hj⟩)))
theorem perm_pop {α : Type} (found xs : List α) {k : Nat} (h : k < xs.length) : ((found ++ [xs[k]]) ++ xs.eraseIdx k).Perm (found ++ xs) := by
  rw [List.append_assoc]
  refine List.Perm.append_left _ ?_
  rw [List.eraseIdx_eq_take_drop_succ]
  have e : xs = xs.take k ++ xs[k] :: xs.drop (k + 1) := by rw [List.getElem_cons_drop, List.take_append_drop]
  show (xs[k] :: (xs.take k ++ xs.drop (k + 1))).Perm xs
  exact (List.perm_middle.symm).trans (List.Perm.of_eq e.symm)
theorem shuffled_ok {c : CS} {items : List Int} (h : Ok c) (hl : items.length ≤ 100000) : wp (m_law_shuffled c items) fun r => r.1.Perm items ∧ Ok r.2 := by
  unfold m_law_shuffled
  refine wp_lt ?_
  refine wp_bind (wp_whS (I := fun s => Ok s.1 ∧ (s.2.2 ++ s.2.1).Perm items) (fun s => s.2.1.length) 1000000 (c, items, []) ⟨h, List.Perm.refl _⟩ (by show items.length < 1000000; omega) fun s hs => ⟨_, rfl, fun hb => ?_⟩) fun s hs => ⟨_, rfl, ?_, hs.1.1⟩
  · have hp := hs.2.length_eq
    rw [List.length_append] at hp
    have hne : 0 < s.2.1.length := by
      cases e : s.2.1 with
      | nil => rw [e] at hb; cases hb
      | cons a l => exact Nat.zero_lt_succ _
    refine wp_bind (take_ok hs.1 (by omega) (by omega)) fun r hr => wp_gd ⟨by omega, by omega⟩ ?_
    obtain ⟨k, hk, e⟩ := popI_in hr.1 hr.2.1
    refine wp_eq e (wp_gd (Nat.lt_of_lt_of_le (by omega : s.2.2.length < 200000) (by decide)) ⟨_, rfl, ⟨hr.2.2, (perm_pop _ _ hk).trans hs.2⟩, ?_⟩)
    show (s.2.1.eraseIdx k).length < _
    rw [List.length_eraseIdx_of_lt hk]
    omega
  · have : s.2.1 = [] := by
      have := Option.some.inj hs.2
      cases e : s.2.1 with
      | nil => rfl
      | cons a l => rw [e] at this; cases this
    have h2 := hs.1.2
    rw [this, List.append_nil] at h2
    exact h2
theorem shuffledW_ok {c : CS} {items : List (List Wd)} (h : Ok c) (hl : items.length ≤ 100000) : wp (m_law_shuffled_W c items) fun r => r.1.Perm items ∧ Ok r.2 := by
  unfold m_law_shuffled_W
  refine wp_lt ?_
  refine wp_bind (wp_whS (I := fun s => Ok s.1 ∧ (s.2.2 ++ s.2.1).Perm items) (fun s => s.2.1.length) 1000000 (c, items, []) ⟨h, List.Perm.refl _⟩ (by show items.length < 1000000; omega) fun s hs => ⟨_, rfl, fun hb => ?_⟩) fun s hs => ⟨_, rfl, ?_, hs.1.1⟩
  · have hp := hs.2.length_eq
    rw [List.length_append] at hp
    have hne : 0 < s.2.1.length := by
      cases e : s.2.1 with
      | nil => rw [e] at hb; cases hb
      | cons a l => exact Nat.zero_lt_succ _
    refine wp_bind (take_ok hs.1 (by omega) (by omega)) fun r hr => wp_gd ⟨by omega, by omega⟩ ?_
    obtain ⟨k, hk, e⟩ := popI_in hr.1 hr.2.1
    refine wp_eq e (wp_gd (Nat.lt_of_lt_of_le (by omega : s.2.2.length < 200000) (by decide)) ⟨_, rfl, ⟨hr.2.2, (perm_pop _ _ hk).trans hs.2⟩, ?_⟩)
    show (s.2.1.eraseIdx k).length < _
    rw [List.length_eraseIdx_of_lt hk]
    omega
  · have : s.2.1 = [] := by
      have := Option.some.inj hs.2
      cases e : s.2.1 with
      | nil => rfl
      | cons a l => rw [e] at this; cases this
    have h2 := hs.1.2
    rw [this, List.append_nil] at h2
    exact h2
theorem sum_ones (l : List Wd) (h : ∀ x ∈ l, x.length = 1) : (l.map (·.length)).sum = l.length := by
  induction l with
  | nil => rfl
  | cons x l ih =>
    rw [List.map_cons, List.sum_cons, List.length_cons, h x (List.mem_cons_self ..), ih fun y hy => h y (List.mem_cons_of_mem _ hy)]
    omega
theorem joinL_nil (l : List Wd) : TL.joinL [] l = l.flatten := by
  induction l with
  | nil => rfl
  | cons x l ih =>
    cases l with
    | nil => simp [TL.joinL]
    | cons y r => simp [TL.joinL] at ih ⊢; rw [ih]
/-- a word of letters, not longer than k -/
def WdOf (ls : Wd) (k : Nat) (w : Wd) : Prop := w.length ≤ k ∧ ∀ z ∈ w, z ∈ ls
theorem word_ok {c : CS} {ls : Wd} {k : Nat} (h : Ok c) (h0 : 0 < ls.length) (h1 : ls.length < 1000) (hk : k < 1000) : wp (m_law_word c ls (k : Int)) fun r => WdOf ls k r.1 ∧ Ok r.2 := by
  unfold m_law_word
  refine wp_bind (take_ok h (by omega) (by omega)) fun r hr => wp_gd ⟨Int.le_trans (show r.1 ≤ 1000 by omega) (by decide), by omega⟩ ?_
  refine wp_bind (wp_compO (I := Ok) (Pe := fun _ z => ∃ y, z = [y] ∧ y ∈ ls) _ _ hr.2.2 fun x s _ hs => ?_) fun l hl => ?_
  · refine wp_bind (take_ok hs (by omega) (by omega)) fun q hq => ?_
    obtain ⟨z, e, hz⟩ := atI_in hq.1 hq.2.1
    exact wp_eq e ⟨_, rfl, ⟨z, rfl, hz⟩, hq.2.2⟩
  · have hone : ∀ x ∈ l.1, x.length = 1 := fun x hx => by
      obtain ⟨_, _, y, rfl, _⟩ := hl.2.1 x hx
      rfl
    have hlen : l.1.length ≤ k := by rw [hl.1, rng_len]; omega
    refine wp_gd ?_ ⟨_, rfl, ⟨?_, ?_⟩, hl.2.2⟩
    · rw [sum_ones _ hone]
      show l.1.length + l.1.length * 0 ≤ _
      omega
    · rw [joinL_nil, List.length_flatten]
      show (l.1.map (·.length)).sum ≤ k
      rw [sum_ones _ hone]
      exact hlen
    · intro z hz
      rw [joinL_nil] at hz
      obtain ⟨x, hx, hz⟩ := List.mem_flatten.mp hz
      obtain ⟨_, _, y, rfl, hy⟩ := hl.2.1 x hx
      rw [List.mem_singleton.mp hz]
      exact hy
end K44
end

section
set_option Elab.async false
set_option linter.all false
set_option maxRecDepth 100000
set_option maxHeartbeats 4000000
/-! k44, plain: the machine that is drawn. -/
namespace K44
open PySem L2 Q TL
open PySem.W (dataLt dataLe keyToks keyToksAll alike)
theorem S_toks (w : Wd) : (S w).cps.toList = w := rfl
theorem S_inj {u w : Wd} (h : S u = S w) : u = w := by
  have := congrArg (fun x : Str => x.cps.toList) h
  exact this
theorem inj_PW : Inj cPW := by
  rintro ⟨a, w⟩ ⟨b, u⟩ h
  simp [keyToks, keyToksAll, S] at h
  exact Prod.ext h.1 h.2
theorem inj_EW : Inj cEW := by
  rintro ⟨a, w, x, d⟩ ⟨b, u, y, e⟩ h
  simp [keyToks, keyToksAll, S] at h
  obtain ⟨rfl, rfl, rfl, rfl⟩ := h
  rfl
theorem eqv_S (u w : Wd) : PyData.eqv (cS u) (cS w) = decide (u = w) := by
  rw [PyData.eqv]
  by_cases h : u = w
  · rw [h, decide_eq_true rfl]; exact beq_self_eq_true _
  · rw [decide_eq_false h]
    exact beq_eq_false_iff_ne.mpr fun e => h (S_inj e)
theorem eqv_I (a b : Int) : PyData.eqv (cI a) (cI b) = decide (a = b) := by
  rw [PyData.eqv]
  by_cases h : a = b
  · rw [h, decide_eq_true rfl]; exact beq_self_eq_true _
  · rw [decide_eq_false h]; exact beq_eq_false_iff_ne.mpr h
theorem eqv_PW (x y : PW) : PyData.eqv (cPW x) (cPW y) = decide (x = y) := by
  obtain ⟨a, w⟩ := x
  obtain ⟨b, u⟩ := y
  show PyData.eqv (.tuple [cI a, cS w]) (.tuple [cI b, cS u]) = _
  rw [PyData.eqv, PyData.eqvAll, PyData.eqvAll, PyData.eqvAll, eqv_I, eqv_S]
  simp [Prod.ext_iff]
theorem eqv_EW (x y : EW) : PyData.eqv (cEW x) (cEW y) = decide (x = y) := by
  obtain ⟨a, w, v, d⟩ := x
  obtain ⟨b, u, t, e⟩ := y
  show PyData.eqv (.tuple [cI a, cS w, cS v, cI d]) (.tuple [cI b, cS u, cS t, cI e]) = _
  rw [PyData.eqv, PyData.eqvAll, PyData.eqvAll, PyData.eqvAll, PyData.eqvAll, PyData.eqvAll, eqv_I, eqv_S, eqv_S, eqv_I]
  simp [Prod.ext_iff]
theorem once_step {α : Type} [DecidableEq α] {c : α → PyData} (hc : ∀ x y, PyData.eqv (c x) (c y) = decide (x = y)) (e : α) (s : List α) (h : s.length < sizeLine) :
    ((cnd (!(!s.isEmpty)) (some true) ((atI s (0 - 1)).bind fun (x6 : α) => some (!PyData.eqv (c x6) (c e)))).bind fun (b7 : Bool) => cnd b7 (gd (s.length < sizeLine) <| some (s ++ [e])) (some s)) = some (if s.getLast? = some e then s else s ++ [e]) := by
  by_cases hs : s = []
  · subst hs
    unfold gd
    rw [if_pos h]
    rfl
  · have h1 : (!(!s.isEmpty)) = false := by
      cases s with
      | nil => exact absurd rfl hs
      | cons a l => rfl
    rw [h1, atI_last hs, List.getLast?_eq_some_getLast hs]
    show (cnd (!PyData.eqv (c (s.getLast hs)) (c e)) (gd (s.length < sizeLine) (some (s ++ [e]))) (some s)) = _
    rw [hc]
    unfold gd
    rw [if_pos h]
    by_cases he : s.getLast hs = e
    · rw [if_pos (congrArg some he), decide_eq_true he]; rfl
    · rw [if_neg (fun h => he (Option.some.inj h)), decide_eq_false he]; rfl
theorem once_PW (xs : List PW) (h : xs.length ≤ sizeLine) : m_law_once xs = some (uniq cPW xs) := by
  unfold m_law_once
  show (forS _ (sortBy cPW xs) []).bind _ = _
  rw [once_loop _ (fun e s hs => once_step eqv_PW e s hs) (sortBy cPW xs) [] (by rw [sortBy_len]; simpa using h)]
  rfl
theorem once_EW (xs : List EW) (h : xs.length ≤ sizeLine) : m_law_once_E xs = some (uniq cEW xs) := by
  unfold m_law_once_E
  show (forS _ (sortBy cEW xs) []).bind _ = _
  rw [once_loop _ (fun e s hs => once_step eqv_EW e s hs) (sortBy cEW xs) [] (by rw [sortBy_len]; simpa using h)]
  rfl

def Let (w : Wd) : Prop := ∀ z ∈ w, 97 ≤ z ∧ z ≤ 122
def In (many a : Int) : Prop := 0 ≤ a ∧ a < many
def PairOk (many : Int) (p : PW) : Prop := In many p.1 ∧ p.2.length ≤ 2 ∧ Let p.2
def EdgeOk (many : Int) (e : EW) : Prop := In many e.1 ∧ (∃ z, e.2.1 = [z] ∧ 97 ≤ z ∧ z ≤ 122) ∧ (e.2.2.1.length ≤ 2 ∧ Let e.2.2.1) ∧ In many e.2.2.2
structure PartsOk (p : Parts) : Prop where
  m0 : 0 ≤ p.1
  m1 : p.1 ≤ 12
  st : ∀ x ∈ p.2.1, PairOk p.1 x
  ed : ∀ x ∈ p.2.2.1, EdgeOk p.1 x
  en : ∀ x ∈ p.2.2.2, PairOk p.1 x
  ls : p.2.1.length ≤ 40
  le : p.2.2.1.length ≤ 40
  ln : p.2.2.2.length ≤ 40
structure MOk (m : Mach) : Prop extends PartsOk m where
  ast : Asc cPW m.2.1
  aed : Asc cEW m.2.2.1
  aen : Asc cPW m.2.2.2
theorem small_le {n : Int} (h : n ≤ 1000) : n ≤ ((sizeLine : Nat) : Int) := Int.le_trans h (by decide)
theorem pairs_ok {c : CS} {ls : Wd} {many n : Int} (h : Ok c) (h0 : 0 < ls.length) (h1 : ls.length < 1000) (hl : Let ls) (hm : 0 < many) (hm1 : many ≤ 12) (hn : n ≤ 40) :
    wp (compO (fun (e16 : Int) (s19 : CS) => some true) (fun (e16 : Int) (s19 : CS) => (m_law_take s19 many).bind fun (r20 : Int × CS) => (m_law_word r20.2 ls 2).bind fun (r21 : Wd × CS) => some ((r20.1, r21.1), r21.2)) (rng 0 n) c) fun l => l.1.length ≤ 40 ∧ (∀ x ∈ l.1, PairOk many x) ∧ Ok l.2 := by
  refine wp_mono (wp_compO (I := Ok) (Pe := fun _ x => PairOk many x) _ _ h fun x s _ hs => ?_) fun l hl => ⟨by rw [hl.1, rng_len]; omega, fun x hx => ?_, hl.2.2⟩
  · refine wp_bind (take_ok hs hm (by omega)) fun r hr => wp_bind (word_ok (k := 2) hr.2.2 h0 h1 (by omega)) fun q hq => ⟨_, rfl, ⟨⟨hr.1, hr.2.1⟩, hq.1.1, fun z hz => hl z (hq.1.2 z hz)⟩, hq.2⟩
  · obtain ⟨_, _, h⟩ := hl.2.1 x hx
    exact h
theorem drawn_ok {c : CS} {rs ls : Wd} {many : Int} (h : Ok c) (r0 : 0 < rs.length) (r1 : rs.length < 1000) (hr : Let rs) (h0 : 0 < ls.length) (h1 : ls.length < 1000) (hl : Let ls) (hm : 0 < many) (hm1 : many ≤ 12) :
    wp (m_law_drawn c rs ls many) fun r => PartsOk r.1 ∧ r.1.1 = many ∧ Ok r.2 := by
  unfold m_law_drawn
  refine wp_lt (wp_bind (take_ok h (by omega) (by omega)) fun a ha => wp_gd ⟨small_le (by omega), by omega⟩ ?_)
  refine wp_bind (wp_forS (I := fun r s => Ok s.1 ∧ (s.2.length : Int) + r.length ≤ 40 ∧ ∀ x ∈ s.2, EdgeOk many x) _ _ ⟨ha.2.2, by rw [rng_len]; show ((0 : Nat) : Int) + _ ≤ 40; omega, fun _ h => nomatch h⟩ fun x r s _ hs => ?_) fun s hs => ?_
  · refine wp_bind (word_ok (k := 2) hs.1 h0 h1 (by omega)) fun q hq => wp_bind (take_ok hq.2 hm (by omega)) fun b hb => wp_bind (take_ok hb.2.2 (by omega) (by omega)) fun d hd => ?_
    obtain ⟨z, e, hz⟩ := atI_in hd.1 hd.2.1
    have hlen := hs.2.1
    rw [List.length_cons] at hlen
    refine wp_eq e (wp_bind (take_ok hd.2.2 hm (by omega)) fun g hg => wp_gd (Nat.lt_of_lt_of_le (by omega : s.2.length < 100) (by decide)) ⟨_, rfl, hg.2.2, ?_, fun y hy => ?_⟩)
    · rw [List.length_append, List.length_singleton]; omega
    · rcases List.mem_append.mp hy with hy | hy
      · exact hs.2.2 y hy
      · rw [List.mem_singleton.mp hy]
        exact ⟨⟨hb.1, hb.2.1⟩, ⟨z, rfl, hr z hz⟩, ⟨hq.1.1, fun z hz => hl z (hq.1.2 z hz)⟩, hg.1, hg.2.1⟩
  · refine wp_bind (take_ok hs.1 (by omega) (by omega)) fun b hb => wp_gd ⟨small_le (by omega), by omega⟩ ?_
    refine wp_bind (pairs_ok hb.2.2 h0 h1 hl hm hm1 (by omega)) fun l hlp => wp_bind (take_ok hlp.2.2 (by omega) (by omega)) fun d hd => wp_gd ⟨small_le (by omega), by omega⟩ ?_
    refine wp_bind (pairs_ok hd.2.2 h0 h1 hl hm hm1 (by omega)) fun l2 hl2 => ⟨_, rfl, ⟨by show 0 ≤ many; omega, hm1, hlp.2.1, hs.2.2, hl2.2.1, hlp.1, by have := hs.2.1; show s.2.length ≤ 40; rw [List.length_nil] at this; omega, hl2.1⟩, rfl, hl2.2.2⟩
theorem small_len {α : Type} {l : List α} (h : l.length ≤ 1000) : l.length ≤ sizeLine := Nat.le_trans h (by decide)
theorem machine_ok {c : CS} {p : Parts} (h : Ok c) (hp : PartsOk p) : wp (m_law_machine c p) fun r => MOk r.1 ∧ Ok r.2 := by
  unfold m_law_machine
  have q0 := hp.m0
  have q1 := hp.m1
  refine wp_gd ⟨hp.m0, by omega⟩ (wp_bind (shuffled_ok h (by rw [rng_len]; omega)) fun r hr => ?_)
  have hlen : (r.1.length : Int) = p.1 := by rw [hr.1.length_eq, rng_len]; omega
  have hin : ∀ a, In p.1 a → ∃ b, atI r.1 a = some b ∧ In p.1 b := fun a ha => by
    obtain ⟨b, e, hb⟩ := atI_in (xs := r.1) ha.1 (by rw [hlen]; exact ha.2)
    refine ⟨b, e, ?_⟩
    have := hr.1.mem_iff.mp hb
    unfold rng at this
    obtain ⟨k, hk, rfl⟩ := List.mem_map.mp this
    have := List.mem_range.mp hk
    exact ⟨by omega, by omega⟩
  have hpair : ∀ (xs : List PW), (∀ x ∈ xs, PairOk p.1 x) → xs.length ≤ 40 → wp (compO (fun (e8 : PW) (s10 : Unit) => some true) (fun (e8 : PW) (s10 : Unit) => (atI r.1 e8.1).bind fun (x9 : Int) => some ((x9, e8.2), ())) xs ()) fun l => l.1.length ≤ 40 ∧ ∀ x ∈ l.1, PairOk p.1 x := fun xs hx hl => by
    refine wp_mono (wp_compO (I := fun _ => True) (Pe := fun _ x => PairOk p.1 x) _ _ trivial fun x s hxs _ => ?_) fun l hl' => ⟨by rw [hl'.1]; exact hl, fun x hx => ?_⟩
    · obtain ⟨b, e, hb⟩ := hin _ (hx x hxs).1
      exact wp_eq e ⟨_, rfl, ⟨hb, (hx x hxs).2⟩, trivial⟩
    · obtain ⟨_, _, h⟩ := hl'.2.1 x hx
      exact h
  have huniq : ∀ (l : List PW), (l.length ≤ 40 ∧ ∀ x ∈ l, PairOk p.1 x) → wp (m_law_once l) fun u => (u.length ≤ 40 ∧ ∀ x ∈ u, PairOk p.1 x) ∧ Asc cPW u := fun l hl => by
    obtain ⟨a, b, d⟩ := uniq_spec inj_PW l
    exact ⟨_, once_PW l (small_len (by omega)), ⟨by omega, fun x hx => hl.2 x ((b x).mp hx)⟩, a⟩
  refine wp_bind (R := fun l => l.1.length ≤ 40 ∧ ∀ x ∈ l.1, EdgeOk p.1 x) ?_ fun l hl => ?_
  · refine wp_mono (wp_compO (I := fun _ => True) (Pe := fun _ x => EdgeOk p.1 x) _ _ trivial fun x s hxs _ => ?_) fun l hl' => ⟨by rw [hl'.1]; exact hp.le, fun x hx => ?_⟩
    · obtain ⟨b, e, hb⟩ := hin _ (hp.ed x hxs).1
      obtain ⟨d, e2, hd⟩ := hin _ (hp.ed x hxs).2.2.2
      exact wp_eq e (wp_eq e2 ⟨_, rfl, ⟨hb, (hp.ed x hxs).2.1, (hp.ed x hxs).2.2.1, hd⟩, trivial⟩)
    · obtain ⟨_, _, h⟩ := hl'.2.1 x hx
      exact h
  · refine wp_bind (hpair _ hp.st hp.ls) fun l2 h2 => wp_bind (huniq _ h2) fun u hu => ?_
    refine wp_bind (R := fun u => (u.length ≤ 40 ∧ ∀ x ∈ u, EdgeOk p.1 x) ∧ Asc cEW u) ?_ fun u2 hu2 => ?_
    · obtain ⟨a, b, d⟩ := uniq_spec inj_EW l.1
      exact ⟨_, once_EW l.1 (small_len (by omega)), ⟨by omega, fun x hx => hl.2 x ((b x).mp hx)⟩, a⟩
    · refine wp_bind (hpair _ hp.en hp.ln) fun l3 h3 => wp_bind (huniq _ h3) fun u3 hu3 => ⟨_, rfl, ⟨⟨hp.m0, hp.m1, hu.1.2, hu2.1.2, hu3.1.2, hu.1.1, hu2.1.1, hu3.1.1⟩, hu.2, hu2.2, hu3.2⟩, hr.2⟩
end K44
end

section
set_option Elab.async false
set_option linter.all false
set_option maxRecDepth 100000
set_option maxHeartbeats 4000000
/-! k44, plain: numbers, words and lines are read alike. -/
namespace K44
open PySem L2 Q TL
def digs (t : Wd) : Bool := (List.map (fun (e1 : Nat) => (decide (e1 ∈ ([48, 49, 50, 51, 52, 53, 54, 55, 56, 57] : Wd)))) t).all id
def lets (t : Wd) : Bool := (List.map (fun (e1 : Nat) => (decide (e1 ∈ ([97, 98, 99, 100, 101, 102, 103, 104, 105, 106, 107, 108, 109, 110, 111, 112, 113, 114, 115, 116, 117, 118, 119, 120, 121, 122] : Wd)))) t).all id
theorem mem_digs (z : Nat) : z ∈ ([48, 49, 50, 51, 52, 53, 54, 55, 56, 57] : Wd) ↔ 48 ≤ z ∧ z ≤ 57 := by
  simp only [List.mem_cons, List.not_mem_nil, or_false]; omega
theorem mem_lets (z : Nat) : z ∈ ([97, 98, 99, 100, 101, 102, 103, 104, 105, 106, 107, 108, 109, 110, 111, 112, 113, 114, 115, 116, 117, 118, 119, 120, 121, 122] : Wd) ↔ 97 ≤ z ∧ z ≤ 122 := by
  simp only [List.mem_cons, List.not_mem_nil, or_false]; omega
theorem digs_iff (t : Wd) : digs t = true ↔ ∀ z ∈ t, 48 ≤ z ∧ z ≤ 57 := by
  unfold digs
  rw [List.all_map, List.all_eq_true]
  exact ⟨fun h z hz => (mem_digs z).mp (of_decide_eq_true (h z hz)), fun h z hz => decide_eq_true ((mem_digs z).mpr (h z hz))⟩
theorem lets_iff (t : Wd) : lets t = true ↔ Let t := by
  unfold lets
  rw [List.all_map, List.all_eq_true]
  exact ⟨fun h z hz => (mem_lets z).mp (of_decide_eq_true (h z hz)), fun h z hz => decide_eq_true ((mem_lets z).mpr (h z hz))⟩
theorem dig_fold (t : Wd) (h : ∀ z ∈ t, 48 ≤ z ∧ z ≤ 57) (a : Nat) : t.foldl (fun acc c => acc * 10 + (c - 48)) a < (a + 1) * 10 ^ t.length := by
  induction t generalizing a with
  | nil => simp
  | cons x t ih =>
    have hx := h x (List.mem_cons_self ..)
    have := ih (fun z hz => h z (List.mem_cons_of_mem _ hz)) (a * 10 + (x - 48))
    rw [List.foldl_cons, List.length_cons, Nat.pow_succ]
    refine Nat.lt_of_lt_of_le this ?_
    rw [Nat.mul_comm (10 ^ t.length) 10, ← Nat.mul_assoc]
    exact Nat.mul_le_mul_right _ (by omega)
/-- texts of one to four digits -/
theorem int_digs {t : Wd} (h : digs t = true) (h0 : t ≠ []) (h1 : t.length ≤ 4) : ∃ n : Nat, intW t = some (n : Int) ∧ n < 10000 := by
  have h := (digs_iff t).mp h
  have hl : (S t).length = t.length := by show (S t).cps.size = _; simp [S]
  refine ⟨PySem.NumText.digitsVal t, ?_, ?_⟩
  · unfold intW
    rw [if_pos (by omega)]
    exact PySem.intText_digits (x := S t) h h0 (by omega)
  · have h2 := dig_fold t h 0
    have h3 : (10 : Nat) ^ t.length ≤ 10 ^ 4 := Nat.pow_le_pow_right (by omega) h1
    show List.foldl _ _ _ < 10000
    exact Nat.lt_of_lt_of_le h2 (by omega)
def num? (t : Wd) : Option Int := if (decide (1 ≤ t.length) && decide (t.length ≤ 4) && digs t && (decide (t.length = 1) || decide (t.head? ≠ some 48))) = true then intW t else none
theorem num_in {t : Wd} {n : Int} (h : num? t = some n) : In 10000 n ∧ intW t = some n := by
  unfold num? at h
  split at h
  · rename_i hc
    simp only [Bool.and_eq_true, decide_eq_true_eq] at hc
    obtain ⟨k, h1, h2⟩ := int_digs hc.1.2 (fun e => by rw [e] at hc; exact absurd hc.1.1.1 (by decide)) hc.1.1.2
    refine ⟨?_, h⟩
    rw [h1] at h
    cases h
    exact ⟨by omega, by omega⟩
  · cases h
theorem atI_zero {α : Type} (x : α) (xs : List α) : atI (x :: xs) 0 = some x := atI_nat (x :: xs) 0
theorem cnd_t {β : Type} (x y : β) : cnd true x y = x := rfl
theorem cnd_f {β : Type} (x y : β) : cnd false x y = y := rfl
theorem number_of_eq (t : Wd) : m_number_of t = some (num? t) := by
  unfold m_number_of
  change cnd (!(decide (1 ≤ (t.length : Int)) && decide ((t.length : Int) ≤ 4)) || !digs t) (some none) _ = _
  unfold num?
  cases t with
  | nil => rfl
  | cons x r =>
    have e1 : decide (1 ≤ ((x :: r).length : Int)) = decide (1 ≤ (x :: r).length) := decide_eq_decide.mpr (by omega)
    have e2 : decide (((x :: r).length : Int) ≤ 4) = decide ((x :: r).length ≤ 4) := decide_eq_decide.mpr (by omega)
    have e3 : decide (((x :: r).length : Int) = 1) = decide ((x :: r).length = 1) := decide_eq_decide.mpr (by omega)
    rw [e1, e2, e3, atI_zero]
    cases decide (1 ≤ (x :: r).length) <;> cases h4 : decide ((x :: r).length ≤ 4) <;> cases hd : digs (x :: r) <;> try rfl
    obtain ⟨n, h1, h2⟩ := int_digs hd (fun h => nomatch h) (of_decide_eq_true h4)
    rw [h1]
    cases decide ((x :: r).length = 1)
    · by_cases hx : x = 48
      · subst hx; rfl
      · simp [cnd, hx]
    · rfl
theorem law_number_eq (t : Wd) (m : Int) : m_law_number t m = some ((num? t).filter fun n => decide (n < m)) := by
  unfold m_law_number
  change cnd (decide (t = []) || (decide ((t.length : Int) > 4) || !digs t)) (some none) _ = _
  unfold num?
  cases t with
  | nil => rfl
  | cons x r =>
    have e1 : decide (1 ≤ (x :: r).length) = true := decide_eq_true (by rw [List.length_cons]; omega)
    have e2 : decide (((x :: r).length : Int) > 4) = !decide ((x :: r).length ≤ 4) := by rw [← decide_not]; exact decide_eq_decide.mpr (by omega)
    have e3 : decide (((x :: r).length : Int) > 1) = !decide ((x :: r).length = 1) := by rw [← decide_not]; exact decide_eq_decide.mpr (by rw [List.length_cons]; omega)
    have e4 : decide (x :: r = []) = false := decide_eq_false (fun h => nomatch h)
    rw [e1, e2, e3, e4, atI_zero]
    cases h4 : decide ((x :: r).length ≤ 4) <;> cases hd : digs (x :: r) <;> try rfl
    obtain ⟨n, h1, h2⟩ := int_digs hd (fun h => nomatch h) (of_decide_eq_true h4)
    rw [h1]
    cases decide ((x :: r).length = 1)
    · by_cases hx : x = 48
      · subst hx; rfl
      · by_cases hn : (n : Int) < m <;> simp [cnd, hx, hn, Option.filter] <;> omega
    · by_cases hn : (n : Int) < m <;> simp [cnd, hn, Option.filter] <;> omega
def word? (t : Wd) : Option Wd := if t = [45] then some [] else if lets t = true then some t else none
theorem is_word_eq (t : Wd) : m_is_word (cS t) = some (lets t) := rfl
theorem word_of_eq (t : Wd) : m_word_of t = some (word? t) := by
  unfold m_word_of word?
  by_cases h : t = [45]
  · rw [decide_eq_true h, if_pos h]; rfl
  · rw [decide_eq_false h, if_neg h, is_word_eq]
    show Option.bind (cnd (lets t) _ _) _ = _
    cases lets t <;> rfl
theorem law_token_eq (t : Wd) : m_law_token t = some (word? t) := by
  unfold m_law_token word?
  by_cases h : t = [45]
  · rw [decide_eq_true h, if_pos h]; rfl
  · rw [decide_eq_false h, if_neg h]
    change Option.bind (cnd (lets t) _ _) _ = _
    cases lets t <;> rfl
end K44
end

section
set_option Elab.async false
set_option linter.all false
set_option maxRecDepth 100000
set_option maxHeartbeats 4000000
/-! k44, plain: lines. -/
namespace K44
open PySem L2 Q TL
inductive Row where
  | s (p : PW)
  | e (x : EW)
  | n (p : PW)
def Row.d : Row → PyData
  | .s p => cPW p
  | .e x => cEW x
  | .n p => cPW p
abbrev wStart : Wd := [115, 116, 97, 114, 116]
abbrev wEdge : Wd := [101, 100, 103, 101]
abbrev wEnd : Wd := [101, 110, 100]
abbrev wStates : Wd := [115, 116, 97, 116, 101, 115]
def two? (many : Int) : Option Int → Option Wd → Option PW
  | some i, some u => if i < many then some (i, u) else none
  | _, _ => none
def pair? (many : Int) : List Wd → Option PW
  | [a, w] => two? many (num? a) (word? w)
  | _ => none
def four? (many : Int) (z : Wd) : Option Int → Option Wd → Option Int → Option EW
  | some i, some u, some j => if i < many ∧ j < many then some (i, z, u, j) else none
  | _, _, _ => none
def one? (z : Wd) : Bool := decide (z.length = 1) && lets z
def edge? (many : Int) : List Wd → Option EW
  | [a, z, w, b] => if one? z = true then four? many z (num? a) (word? w) (num? b) else none
  | _ => none
def row? (many : Int) : List Wd → Option Row
  | [] => none
  | h :: r => if h = wEdge then (edge? many r).map .e else if h = wStart then (pair? many r).map .s else if h = wEnd then (pair? many r).map .n else none
theorem row_cons (many : Int) (h : Wd) (r : List Wd) : row? many (h :: r) = if h = wEdge then (edge? many r).map .e else if h = wStart then (pair? many r).map .s else if h = wEnd then (pair? many r).map .n else none := rfl
theorem at0 {α : Type} (a : α) (r : List α) : atI (a :: r) 0 = some a := atI_nat _ 0
theorem at1 {α : Type} (a b : α) (r : List α) : atI (a :: b :: r) 1 = some b := atI_nat _ 1
theorem at2 {α : Type} (a b c : α) (r : List α) : atI (a :: b :: c :: r) 2 = some c := atI_nat _ 2
theorem at3 {α : Type} (a b c d : α) (r : List α) : atI (a :: b :: c :: d :: r) 3 = some d := atI_nat _ 3
theorem at4 {α : Type} (a b c d e : α) (r : List α) : atI (a :: b :: c :: d :: e :: r) 4 = some e := atI_nat _ 4
theorem bnd_some {α β : Type} (a : α) (f : α → Option β) : (some a).bind f = f a := rfl
theorem pair_of_eq (l : List Wd) (many : Int) : m_pair_of l many = some (pair? many l) := by
  unfold m_pair_of
  rcases l with _ | ⟨a, _ | ⟨w, _ | ⟨x, r⟩⟩⟩
  · rfl
  · rfl
  · rw [at0, bnd_some, number_of_eq, bnd_some, at1, bnd_some, word_of_eq]
    show _ = some (two? many (num? a) (word? w))
    cases num? a with
    | none => rfl
    | some i =>
      cases word? w with
      | none => rfl
      | some u =>
        by_cases h : i < many
        · show Option.bind (cnd (decide (i ≥ many)) _ _) _ = some (if i < many then _ else _)
          rw [if_pos h, decide_eq_false (by omega)]; rfl
        · show Option.bind (cnd (decide (i ≥ many)) _ _) _ = some (if i < many then _ else _)
          rw [if_neg h, decide_eq_true (by omega)]; rfl
  · have : decide (((a :: w :: x :: r).length : Int) = 2) = false := decide_eq_false (by simp only [List.length_cons]; omega)
    rw [this]
    rfl
theorem oneW_eq (z : Wd) : ((cnd (!decide ((z.length : Int) = 1)) (some true) ((oneW z).bind fun (z3 : Nat) => some (!decide (z3 ∈ ([97, 98, 99, 100, 101, 102, 103, 104, 105, 106, 107, 108, 109, 110, 111, 112, 113, 114, 115, 116, 117, 118, 119, 120, 121, 122] : Wd))))) : Option Bool) = some (!one? z) := by
  rcases z with _ | ⟨a, _ | ⟨b, r⟩⟩
  · rfl
  · unfold one? lets
    show some (!decide (a ∈ _)) = some (!(true && (decide (a ∈ _) && true)))
    rw [Bool.and_true, Bool.true_and]
  · have : decide (((a :: b :: r).length : Int) = 1) = false := decide_eq_false (by simp only [List.length_cons]; omega)
    rw [this]
    unfold one?
    rw [decide_eq_false (by simp only [List.length_cons]; omega)]
    rfl
theorem edge_of_eq (l : List Wd) (many : Int) : m_edge_of l many = some (edge? many l) := by
  unfold m_edge_of
  rcases l with _ | ⟨a, _ | ⟨z, _ | ⟨w, _ | ⟨b, _ | ⟨x, r⟩⟩⟩⟩⟩
  · rfl
  · rfl
  · rfl
  · rfl
  · have : decide ((([a, z, w, b] : List Wd).length : Int) = 4) = true := rfl
    rw [this, at1, at0, at2, at3]
    simp only [bnd_some, number_of_eq, word_of_eq]
    rw [oneW_eq]
    show cnd (!one? z) _ _ = some (if one? z = true then _ else _)
    cases one? z with
    | false => rfl
    | true =>
      rw [if_pos rfl]
      show _ = some (four? many z (num? a) (word? w) (num? b))
      cases num? a with
      | none => rfl
      | some i =>
        cases word? w with
        | none => rfl
        | some u =>
          cases num? b with
          | none => rfl
          | some j =>
            show Option.bind (Option.bind (Option.bind (Option.bind (cnd (decide (i ≥ many)) _ _) _) _) _) _ = some (if i < many ∧ j < many then _ else _)
            by_cases h : i < many
            · rw [decide_eq_false (by omega)]
              show cnd (decide (j ≥ many)) _ _ = _
              by_cases h2 : j < many
              · rw [if_pos ⟨h, h2⟩, decide_eq_false (by omega)]; rfl
              · rw [if_neg (fun h => h2 h.2), decide_eq_true (by omega)]; rfl
            · rw [if_neg (fun h' => h h'.1), decide_eq_true (by omega)]; rfl
  · have : decide (((a :: z :: w :: b :: x :: r).length : Int) = 4) = false := decide_eq_false (by simp only [List.length_cons]; omega)
    rw [this]
    rfl
def rowD : Option Row → PyData
  | none => .none
  | some x => x.d
theorem line_three (h a w : Wd) (many : Int) : m_law_line [h, a, w] many = some (rowD (row? many [h, a, w])) := by
  unfold m_law_line
  have e1 : decide ((([h, a, w] : List Wd).length : Int) ∈ ([3, 5] : List Int)) = true := rfl
  have e2 : decide ((([h, a, w] : List Wd).length : Int) = 3) = true := rfl
  simp only [e1, e2, cnd_t, bnd_some, at2, at1, at0, law_token_eq, law_number_eq]
  have k : ∀ z, row? many [h, a, w] = z → some (rowD (row? many [h, a, w])) = some (rowD z) := fun z e => by rw [e]
  have kn : two? many (num? a) (word? w) = none → row? many [h, a, w] = none := fun e => by
    rw [row_cons]
    split
    · rfl
    split
    · show Option.map _ (two? many (num? a) (word? w)) = none
      rw [e]; rfl
    split
    · show Option.map _ (two? many (num? a) (word? w)) = none
      rw [e]; rfl
    · rfl
  cases hw : word? w with
  | none =>
    rw [k none (kn (by rw [hw]; cases num? a <;> rfl))]
    rfl
  | some u =>
    cases hn : num? a with
    | none =>
      rw [k none (kn (by rw [hn]; rfl))]
      rfl
    | some i =>
      have hi := (num_in hn).2
      by_cases hlt : i < many
      · have ef : (some i).filter (fun n => decide (n < many)) = some i := by simp [Option.filter, hlt]
        have et : two? many (num? a) (word? w) = some (i, u) := by rw [hn, hw]; exact if_pos hlt
        rw [ef, hi]
        by_cases h1 : h = wStart
        · subst h1
          rw [k (some (.s (i, u))) (by show Option.map _ (two? many (num? a) (word? w)) = _; rw [et]; rfl)]
          rfl
        · by_cases h2 : h = wEnd
          · subst h2
            rw [k (some (.n (i, u))) (by show Option.map _ (two? many (num? a) (word? w)) = _; rw [et]; rfl)]
            rfl
          · have e3 : decide (h ∈ ([wStart, wEnd] : List Wd)) = false := decide_eq_false (by simp [h1, h2])
            rw [k none (by
              rw [row_cons, if_neg h1, if_neg h2]
              split <;> rfl)]
            show Option.bind (cnd (decide (h ∈ ([wStart, wEnd] : List Wd))) _ _) _ = _
            rw [e3]
            rfl
      · have ef : (some i).filter (fun n => decide (n < many)) = none := by simp [Option.filter, hlt]
        rw [k none (kn (by rw [hn, hw]; exact if_neg hlt)), ef]
        rfl
theorem pair_four (many : Int) (a z w b : Wd) : pair? many [a, z, w, b] = none := rfl
theorem line_five (h a z w b : Wd) (many : Int) : m_law_line [h, a, z, w, b] many = some (rowD (row? many [h, a, z, w, b])) := by
  unfold m_law_line
  have e1 : decide ((([h, a, z, w, b] : List Wd).length : Int) ∈ ([3, 5] : List Int)) = true := rfl
  have e2 : decide ((([h, a, z, w, b] : List Wd).length : Int) = 3) = false := rfl
  simp only [e1, e2, cnd_t, bnd_some, at3, at2, at1, at0, at4, law_token_eq, law_number_eq, cnd_f]
  have e3 : (cnd (!decide (h = wEdge)) (some true) ((cnd (!decide ((z.length : Int) = 1)) (some true) ((cnd (decide (z = ([45] : Wd))) (some true) (some (word? z).isNone)).bind some)).bind some)) = some (!(decide (h = wEdge) && one? z)) := by
    cases decide (h = wEdge) with
    | false => rfl
    | true =>
      show Option.bind (cnd (!decide ((z.length : Int) = 1)) _ _) _ = _
      unfold one?
      have e4 : decide ((z.length : Int) = 1) = decide (z.length = 1) := decide_eq_decide.mpr (by omega)
      rw [e4]
      cases decide (z.length = 1) with
      | false => rfl
      | true =>
        show Option.bind (Option.bind (cnd (decide (z = [45])) _ _) _) _ = some (!lets z)
        unfold word?
        by_cases h5 : z = [45]
        · subst h5; rfl
        · rw [decide_eq_false h5, if_neg h5]
          cases lets z <;> rfl
  have kn : (h = wEdge → edge? many [a, z, w, b] = none) → row? many [h, a, z, w, b] = none := fun e => by
    rw [row_cons]
    split
    · rename_i he
      rw [e he]; rfl
    rw [pair_four]
    split
    · rfl
    split <;> rfl
  have k : ∀ y, row? many [h, a, z, w, b] = y → some (rowD (row? many [h, a, z, w, b])) = some (rowD y) := fun y e => by rw [e]
  have e5 : edge? many [a, z, w, b] = if one? z = true then four? many z (num? a) (word? w) (num? b) else none := rfl
  have eb : ∀ (x : Option Bool), Option.bind x (fun b => some b) = Option.bind x some := fun _ => rfl
  simp only [eb]
  cases hw : word? w with
  | none =>
    rw [k none (kn fun _ => by rw [e5, hw]; split <;> (try rfl); cases num? a <;> rfl)]
    rfl
  | some u =>
    cases hn : num? a with
    | none =>
      rw [k none (kn fun _ => by rw [e5, hn]; split <;> rfl)]
      rfl
    | some i =>
      have hi := (num_in hn).2
      by_cases hlt : i < many
      · have ef : (some i).filter (fun n => decide (n < many)) = some i := by simp [Option.filter, hlt]
        rw [ef, hi]
        simp only [Option.isNone_some, cnd_f, bnd_some]
        rw [e3, bnd_some]
        by_cases h1 : h = wEdge
        · rw [decide_eq_true h1]
          cases ho : one? z with
          | false =>
            rw [k none (kn fun _ => by rw [e5, ho]; rfl)]
            rfl
          | true =>
            have e6 : edge? many [a, z, w, b] = four? many z (some i) (some u) (num? b) := by rw [e5, ho, hn, hw]; rfl
            have e7 : ∀ y, four? many z (some i) (some u) (num? b) = some y → row? many [h, a, z, w, b] = some (.e y) := fun y hy => by
              rw [row_cons, if_pos h1, e6, hy]; rfl
            have e8 : four? many z (some i) (some u) (num? b) = none → row? many [h, a, z, w, b] = none := fun hy => kn fun _ => by rw [e6, hy]
            cases hb : num? b with
            | none => rw [k none (e8 (by rw [hb]; rfl))]; rfl
            | some j =>
              have hj := (num_in hb).2
              by_cases hl : j < many
              · have eg : (some j).filter (fun n => decide (n < many)) = some j := by simp [Option.filter, hl]
                rw [eg, hj, k _ (e7 (i, z, u, j) (by rw [hb]; exact if_pos ⟨hlt, hl⟩))]
                rfl
              · have eg : (some j).filter (fun n => decide (n < many)) = none := by simp [Option.filter, hl]
                rw [eg, k none (e8 (by rw [hb]; exact if_neg fun h => hl h.2))]
                rfl
        · rw [decide_eq_false h1, k none (kn fun h => absurd h h1)]
          rfl
      · have ef : (some i).filter (fun n => decide (n < many)) = none := by simp [Option.filter, hlt]
        rw [k none (kn fun _ => by
          rw [e5, hn, hw]
          split
          · cases num? b with
            | none => rfl
            | some j => exact if_neg fun h => hlt h.1
          · rfl), ef]
        rfl
theorem line_eq (l : List Wd) (many : Int) : m_law_line l many = some (rowD (row? many l)) := by
  have no : decide ((l.length : Int) ∈ ([3, 5] : List Int)) = false → m_law_line l many = some .none := fun h => by
    unfold m_law_line
    rw [h]
    rfl
  rcases l with _ | ⟨h, _ | ⟨a, _ | ⟨w, _ | ⟨x, _ | ⟨b, _ | ⟨y, r⟩⟩⟩⟩⟩⟩
  · exact no rfl
  · rw [no rfl, row_cons]
    split
    · rfl
    split
    · rfl
    split <;> rfl
  · rw [no rfl, row_cons]
    split
    · rfl
    split
    · rfl
    split <;> rfl
  · exact line_three ..
  · rw [no rfl, row_cons]
    split
    · rfl
    split
    · rfl
    split <;> rfl
  · exact line_five ..
  · rw [no (decide_eq_false (by simp only [List.length_cons, List.mem_cons, List.not_mem_nil, or_false]; omega)), row_cons]
    split
    · rfl
    split
    · rfl
    split <;> rfl
end K44
end

section
set_option Elab.async false
set_option linter.all false
set_option maxRecDepth 100000
set_option maxHeartbeats 4000000
/-! k44, plain: texts are read alike. -/
namespace K44
open PySem L2 Q TL
open PySem.W (dataLt dataLe keyToks keyToksAll alike)
/-! rows in order, as data -/
structure Flat {α : Type} (c : α → PyData) : Prop where
  inj : Inj c
  eqv : ∀ [DecidableEq α] x y, PyData.eqv (c x) (c y) = decide (x = y)
  alk : ∀ x y, alike (c x) (c y) = true
  tup : ∀ x, ∃ y r, c x = .tuple (y :: r)
  dep : ∀ x, (c x).depth ≤ 60
theorem flat_PW : Flat cPW where
  inj := inj_PW
  eqv x y := by rw [eqv_PW]; exact decide_eq_decide.mpr Iff.rfl
  alk x y := rfl
  tup x := ⟨_, _, rfl⟩
  dep x := by show (PyData.tuple [cI x.1, cS x.2]).depth ≤ 60; simp [PyData.depth, PyData.depthAll]
theorem flat_EW : Flat cEW where
  inj := inj_EW
  eqv x y := by rw [eqv_EW]; exact decide_eq_decide.mpr Iff.rfl
  alk x y := rfl
  tup x := ⟨_, _, rfl⟩
  dep x := by show (PyData.tuple [cI x.1, cS x.2.1, cS x.2.2.1, cI x.2.2.2]).depth ≤ 60; simp [PyData.depth, PyData.depthAll]
theorem sortP_map {α : Type} {c : α → PyData} (F : Flat c) (xs : List α) : sortP (xs.map c) = some ((sortBy c xs).map c) := by
  unfold sortP
  rw [if_pos]
  · rw [sortBy_map]
  · refine ⟨?_, ?_, ?_⟩
    · rw [List.all_eq_true]
      intro d hd
      rw [List.all_eq_true]
      intro e he
      obtain ⟨x, _, rfl⟩ := List.mem_map.mp hd
      obtain ⟨y, _, rfl⟩ := List.mem_map.mp he
      exact F.alk x y
    · rw [List.all_eq_true]
      intro d hd
      obtain ⟨x, _, rfl⟩ := List.mem_map.mp hd
      obtain ⟨y, r, e⟩ := F.tup x
      rw [e]
    · rw [List.all_eq_true]
      intro d hd
      obtain ⟨x, _, rfl⟩ := List.mem_map.mp hd
      exact decide_eq_true (F.dep x)
theorem sort_nodup {α : Type} {c : α → PyData} (hi : Inj c) {xs : List α} (h : xs.Nodup) : Asc c (sortBy c xs) := by
  have h1 := sortBy_pw c xs
  have h2 : (sortBy c xs).Nodup := (List.mergeSort_perm xs _).nodup_iff.mpr h
  refine List.Pairwise.imp₂ (fun x y h1 h2 => ?_) h1 h2
  cases e : dataLt (c x) (c y) with
  | true => rfl
  | false => exact absurd (ltd_total hi e h1) h2
def ins {α : Type} [DecidableEq α] (A : List α) (p : α) : List α := if p ∈ A then A else A ++ [p]
def dd {α : Type} [DecidableEq α] (l : List α) : List α := l.foldl ins []
theorem dd_snoc {α : Type} [DecidableEq α] (l : List α) (p : α) : dd (l ++ [p]) = ins (dd l) p := by unfold dd; rw [List.foldl_append]; rfl
theorem ins_spec {α : Type} [DecidableEq α] (l A : List α) (h : A.Nodup) : (l.foldl ins A).Nodup ∧ (∀ p, p ∈ l.foldl ins A ↔ p ∈ A ∨ p ∈ l) ∧ (l.foldl ins A).length ≤ A.length + l.length := by
  induction l generalizing A with
  | nil => exact ⟨h, fun p => by simp, Nat.le_refl _⟩
  | cons x l ih =>
    rw [List.foldl_cons]
    unfold ins
    by_cases hx : x ∈ A
    · rw [if_pos hx]
      obtain ⟨a, b, d⟩ := ih A h
      refine ⟨a, fun p => ?_, by rw [List.length_cons]; exact Nat.le_succ_of_le d⟩
      rw [List.mem_cons]
      refine (b p).trans ⟨fun h => h.elim .inl fun h => .inr (.inr h), ?_⟩
      rintro (h | rfl | h)
      · exact .inl h
      · exact .inl hx
      · exact .inr h
    · rw [if_neg hx]
      obtain ⟨a, b, d⟩ := ih (A ++ [x]) (List.nodup_append.mpr ⟨h, (List.pairwise_singleton ..), fun a ha b hb e => hx (by rw [List.mem_singleton] at hb; rw [← hb, ← e]; exact ha)⟩)
      refine ⟨a, fun p => ?_, by rw [List.length_append, List.length_singleton] at d; rw [List.length_cons]; exact Nat.le_trans d (by omega)⟩
      rw [List.mem_cons]
      refine (b p).trans ?_
      rw [List.mem_append, List.mem_singleton]
      constructor
      · rintro ((h | h) | h)
        · exact .inl h
        · exact .inr (.inl h)
        · exact .inr (.inr h)
      · rintro (h | h | h)
        · exact .inl (.inl h)
        · exact .inl (.inr h)
        · exact .inr h
theorem dd_spec {α : Type} [DecidableEq α] (l : List α) : (dd l).Nodup ∧ (∀ p, p ∈ dd l ↔ p ∈ l) ∧ (dd l).length ≤ l.length := by
  obtain ⟨a, b, d⟩ := ins_spec l [] .nil
  exact ⟨a, fun p => (b p).trans (by simp), by rw [List.length_nil, Nat.zero_add] at d; exact d⟩
theorem sort_dd {α : Type} [DecidableEq α] {c : α → PyData} (F : Flat c) (l : List α) : sortP ((dd l).map c) = some ((uniq c l).map c) := by
  rw [sortP_map F, uniq_eq F.inj (sort_nodup F.inj (dd_spec l).1) fun z => (sortBy_mem c _ z).trans ((dd_spec l).2.1 z)]
theorem once_loopM {α : Type} [DecidableEq α] {c : α → PyData} (f : PyData → List PyData → Option (List PyData)) (hf : ∀ e (s : List α), s.length < sizeLine → f (c e) (s.map c) = some ((if s.getLast? = some e then s else s ++ [e]).map c)) : ∀ (xs s : List α), s.length + xs.length ≤ sizeLine →
    forS f (xs.map c) (s.map c) = some ((xs.foldl (fun s e => if s.getLast? = some e then s else s ++ [e]) s).map c)
  | [], s, _ => rfl
  | x :: xs, s, h => by
    rw [List.length_cons] at h
    rw [List.map_cons]
    unfold forS
    rw [hf x s (by omega)]
    show forS f (xs.map c) _ = _
    rw [once_loopM f hf xs _ (by split <;> (try rw [List.length_append, List.length_singleton]) <;> omega)]
    rfl
theorem once_L {α : Type} [DecidableEq α] {c : α → PyData} (F : Flat c) (xs : List α) (h : xs.length ≤ sizeLine) : m_law_once_L (xs.map c) = some ((uniq c xs).map c) := by
  unfold m_law_once_L
  rw [sortP_map F]
  show Option.bind (forS _ ((sortBy c xs).map c) (([] : List α).map c)) _ = _
  rw [once_loopM (c := c) _ (fun e s hs => ?_) (sortBy c xs) [] (by rw [sortBy_len, List.length_nil, Nat.zero_add]; exact h)]
  · rfl
  · by_cases hs0 : s = []
    · subst hs0
      show Option.bind (some true) _ = _
      rw [bnd_some]
      show gd (0 < sizeLine) _ = _
      unfold gd
      rw [if_pos (by decide)]
      rfl
    · have hm : s.map c ≠ [] := fun e => hs0 (List.map_eq_nil_iff.mp e)
      have h1 : (!(!(s.map c).isEmpty)) = false := by
        cases s with
        | nil => exact absurd rfl hs0
        | cons a l => rfl
      have d1 : (c (s.getLast hs0)).depth ≤ 64 := Nat.le_trans (F.dep _) (by decide)
      have d2 : (c e).depth ≤ 64 := Nat.le_trans (F.dep _) (by decide)
      rw [h1, atI_last hm, List.getLast?_eq_some_getLast hs0, List.getLast_map]
      unfold gd
      simp only [cnd_f, bnd_some]
      rw [if_pos d1, if_pos d2, bnd_some, F.eqv, List.length_map, if_pos hs]
      by_cases he : s.getLast hs0 = e
      · rw [if_pos (congrArg some he), decide_eq_true he]; rfl
      · rw [if_neg (fun h => he (Option.some.inj h)), decide_eq_false he, List.map_append]; rfl
end K44
end

section
set_option Elab.async false
set_option linter.all false
set_option maxRecDepth 100000
set_option maxHeartbeats 4000000
/-! k44, plain: the run over the lines of a text. -/
namespace K44
open PySem L2 Q TL
structure St where
  many : Option Int
  ss : List PW
  es : List EW
  ns : List PW
def St.size (st : St) : Nat := st.ss.length + st.es.length + st.ns.length
def St.add (st : St) : Row → St
  | .s p => { st with ss := st.ss ++ [p] }
  | .e x => { st with es := st.es ++ [x] }
  | .n p => { st with ns := st.ns ++ [p] }
def states? : List Wd → Option Int
  | [h, t] => if h = wStates then num? t else none
  | _ => none
def stepT (st : St) : List Wd → Option St
  | [] => some st
  | h :: r => match st.many with
    | none => (states? (h :: r)).map fun n => { st with many := some n }
    | some m => (row? m (h :: r)).map st.add
def runT : Int → List (List Wd) → St → St ⊕ Int
  | _, [], st => .inl st
  | k, l :: ls, st => match stepT st l with
    | none => .inr k
    | some st' => runT (k + 1) ls st'
def tok1 (l : Wd) : List Wd := List.map (fun (e9 : Wd) => e9) (List.filter (fun (e9 : Wd) => !decide (e9 = ([] : Wd))) (TL.spl ([32] : Wd) 0 [] l))
theorem step_none {st : St} (h : st.many = none) (a : Wd) (r : List Wd) : stepT st (a :: r) = (states? (a :: r)).map fun n => { st with many := some n } := by
  show (match st.many with | none => _ | some m => _) = _
  rw [h]
theorem step_some {st : St} {m : Int} (h : st.many = some m) (a : Wd) (r : List Wd) : stepT st (a :: r) = (row? m (a :: r)).map st.add := by
  show (match st.many with | none => _ | some m => _) = _
  rw [h]
theorem step_size {st st' : St} {l : List Wd} (h : stepT st l = some st') : st'.size ≤ st.size + 1 := by
  cases l with
  | nil => cases h; exact Nat.le_succ _
  | cons a r =>
    cases hm : st.many with
    | none =>
      rw [step_none hm] at h
      cases hs : states? (a :: r) with
      | none => rw [hs] at h; cases h
      | some n => rw [hs] at h; cases h; exact Nat.le_succ _
    | some m =>
      rw [step_some hm] at h
      cases hs : row? m (a :: r) with
      | none => rw [hs] at h; cases h
      | some x =>
        rw [hs] at h
        cases h
        cases x <;> (simp only [St.add, St.size, List.length_append, List.length_singleton]; omega)
theorem loop_run {S R : Type} (f : Int × Wd → S → Option (Ctl S R)) (enc : St → S) (err : Int → R)
    (hf : ∀ k x st, st.size < sizeLine → x.length + 2 ≤ sizeLine → f (k, x) (enc st) = some (match stepT st (tok1 x) with | none => .rt (err k) | some st' => .nx (enc st'))) :
    ∀ (xs : List Wd) (k : Int) (st : St), st.size + xs.length ≤ sizeLine → (∀ x ∈ xs, x.length + 2 ≤ sizeLine) →
      forC f (enm k xs) (enc st) = some (match runT k (xs.map tok1) st with | .inl st' => .nx (enc st') | .inr j => .rt (err j))
  | [], k, st, _, _ => rfl
  | x :: xs, k, st, h1, h2 => by
    rw [List.length_cons] at h1
    unfold enm forC
    rw [hf k x st (by omega) (h2 x (List.mem_cons_self ..)), List.map_cons]
    unfold runT
    cases hs : stepT st (tok1 x) with
    | none => rfl
    | some st' =>
      have := step_size hs
      exact loop_run f enc err hf xs (k + 1) st' (by omega) fun y hy => h2 y (List.mem_cons_of_mem _ hy)
theorem rng_cons {lo hi : Int} (h : lo < hi) : rng lo hi = lo :: rng (lo + 1) hi := by
  unfold rng
  have e : (hi - lo).toNat = (hi - (lo + 1)).toNat + 1 := by omega
  rw [e, List.range_succ_eq_map, List.map_cons, List.map_map]
  refine congr (congrArg _ (by simp)) (List.map_congr_left fun k _ => ?_)
  show lo + ((k + 1 : Nat) : Int) = lo + 1 + (k : Int)
  omega
theorem rng_nil {lo hi : Int} (h : hi ≤ lo) : rng lo hi = [] := by
  unfold rng
  rw [show (hi - lo).toNat = 0 by omega]
  rfl
theorem loop_at {S R : Type} (F : Int → Wd → S → Option (Ctl S R)) (all : List Wd) : ∀ (xs pre : List Wd) (s : S), all = pre ++ xs →
    forC (fun (i : Int) s => (atI all i).bind fun x => F i x s) (rng pre.length all.length) s = forC (fun (q : Int × Wd) s => F q.1 q.2 s) (enm pre.length xs) s
  | [], pre, s, h => by
    rw [rng_nil (by rw [h, List.append_nil]; exact Int.le_refl _)]
    rfl
  | x :: xs, pre, s, h => by
    have hl : all.length = pre.length + (xs.length + 1) := by rw [h, List.length_append, List.length_cons]
    rw [rng_cons (by omega)]
    unfold enm forC
    have ha : atI all (pre.length : Int) = some x := by rw [Q.atI_nat, h, List.getElem?_append_right (Nat.le_refl _), Nat.sub_self]; rfl
    rw [ha]
    show (F _ x s).bind _ = (F _ x s).bind _
    have ih := fun s' => loop_at F all xs (pre ++ [x]) s' (by rw [h]; simp)
    rw [List.length_append, List.length_singleton] at ih
    congr 1
    funext c
    cases c with
    | nx s' => exact ih s'
    | bk s' => rfl
    | rt r => rfl
/-! the run of read -/
def kPW (p : PW) : List Key := [.inl p.1, .inr (S p.2)]
def kEW (p : EW) : List Key := [.inl p.1, .inr (S p.2.1), .inr (S p.2.2.1), .inl p.2.2.2]
theorem kPW_inj {p q : PW} (h : kPW p = kPW q) : p = q := by
  unfold kPW at h
  injection h with h1 h2
  injection h2 with h2 _
  exact Prod.ext (Sum.inl.inj h1) (S_inj (Sum.inr.inj h2))
theorem kEW_inj {p q : EW} (h : kEW p = kEW q) : p = q := by
  unfold kEW at h
  injection h with h1 h2
  injection h2 with h2 h3
  injection h3 with h3 h4
  injection h4 with h4 _
  exact Prod.ext (Sum.inl.inj h1) (Prod.ext (S_inj (Sum.inr.inj h2)) (Prod.ext (S_inj (Sum.inr.inj h3)) (Sum.inl.inj h4)))
theorem insK_map {α : Type} [DecidableEq α] {g : α → List Key} (hg : ∀ {p q}, g p = g q → p = q) (A : List α) (p : α) : insK (A.map g) (g p) = (ins A p).map g := by
  unfold insK ins
  by_cases h : p ∈ A
  · rw [if_pos (List.mem_map.mpr ⟨p, h, rfl⟩), if_pos h]
  · rw [if_neg (fun h' => ?_), if_neg h, List.map_append]
    · rfl
    · obtain ⟨q, hq, e⟩ := List.mem_map.mp h'
      exact h (hg e ▸ hq)
def rS (st : St) : (Option Int) × (List (List Key)) × (List (List Key)) × (List (List Key)) := (st.many, (dd st.ss).map kPW, (dd st.es).map kEW, (dd st.ns).map kPW)
def dS (st : St) : (Option Int) × (List PyData) × (List PyData) × (List PyData) := (st.many, st.ss.map cPW, st.es.map cEW, st.ns.map cPW)
end K44
end

section
set_option Elab.async false
set_option linter.all false
set_option maxRecDepth 100000
set_option maxHeartbeats 4000000
/-! k44, plain: what read answers, and what is due. -/
namespace K44
open PySem L2 Q TL
def toks (t : Wd) : List (List Wd) := (TL.spl [10] 0 [] t).map tok1
def st0 : St := ⟨none, [], [], []⟩
def finR : St ⊕ Int → Mach ⊕ Int
  | .inr k => .inr k
  | .inl st => match st.many with
    | none => .inr 1
    | some m => .inl (m, uniq cPW st.ss, uniq cEW st.es, uniq cPW st.ns)
def told : Mach ⊕ Int → PyData ⊕ Int
  | .inl m => .inl (cMach m)
  | .inr k => .inr k
def dueD : Mach ⊕ Int → PyData
  | .inl m => cMach m
  | .inr k => cI k
theorem gd_pos {β : Type} {p : Prop} [Decidable p] (h : p) (k : Option β) : gd p k = k := if_pos h
theorem compO_cons {α S β : Type} (f : α → S → Option (β × S)) (x : α) (xs : List α) (s : S) : compO (fun _ _ => some true) f (x :: xs) s = (f x s).bind fun y => (compO (fun _ _ => some true) f xs y.2).bind fun l => some (y.1 :: l.1, l.2) := rfl
theorem spl_sizes (c : Nat) : ∀ (t acc : Wd), (TL.spl [c] 0 acc t).length ≤ t.length + 1 ∧ ∀ x ∈ TL.spl [c] 0 acc t, x.length ≤ acc.length + t.length
  | [], acc => by
    rw [TL.spl_nil]
    exact ⟨Nat.le_refl _, fun x hx => by rw [List.mem_singleton.mp hx]; exact Nat.le_refl _⟩
  | x :: t, acc => by
    unfold TL.spl
    split
    · obtain ⟨h1, h2⟩ := spl_sizes c t []
      refine ⟨by rw [List.length_cons, List.length_cons]; exact Nat.succ_le_succ h1, fun y hy => ?_⟩
      rcases List.mem_cons.mp hy with rfl | hy
      · omega
      · have := h2 y hy
        rw [List.length_nil] at this
        rw [List.length_cons]; omega
    · obtain ⟨h1, h2⟩ := spl_sizes c t (acc ++ [x])
      refine ⟨by rw [List.length_cons]; omega, fun y hy => ?_⟩
      have := h2 y hy
      rw [List.length_append, List.length_singleton] at this
      rw [List.length_cons]; omega
theorem three_eq (A B C : List PyData) : compO (fun (e62 : Wd) (s64 : Unit) => some true) (fun (e62 : Wd) (s64 : Unit) => (cnd (decide (e62 = wStart)) (some A) (cnd (decide (e62 = wEdge)) (some B) (cnd (decide (e62 = wEnd)) (some C) none))).bind fun (x63 : List PyData) => some (x63, ())) [wStart, wEdge, wEnd] () = some ([A, B, C], ()) := rfl
theorem cut1 {α : Type} (a : α) (r : List α) : cut (a :: r) (some 1) none = r := by
  unfold cut
  rw [show HT.sIx (a :: r).length 0 (some 1) = 1 by show HT.sIx _ 0 (some ((1 : Nat) : Int)) = 1; rw [HT.sIx_nat, List.length_cons]; omega, HT.sIx_none, List.length_cons, Nat.add_sub_cancel]
  show r.take r.length = r
  exact List.take_length
theorem read_eq (t : Wd) (ht : t.length + 2 ≤ sizeLine) : m_read t = some (told (finR (runT 1 (toks t) st0))) := by
  unfold m_read
  rw [gd_pos ht]
  obtain ⟨z1, z2⟩ := spl_sizes 10 t []
  have key := fun f hf => loop_run (R := PyData ⊕ Int) f rS Sum.inr hf (TL.spl [10] 0 [] t) 1 st0 (by show 0 + 0 + 0 + _ ≤ _; omega) fun x hx => by
    have := z2 x hx
    rw [List.length_nil] at this
    omega
  show Option.bind (forC _ _ (rS st0)) _ = _
  rw [key]
  case hf =>
    intro k x st hs hx
    obtain ⟨many, ss, es, ns⟩ := st
    rw [show rS ⟨many, ss, es, ns⟩ = (many, (dd ss).map kPW, (dd es).map kEW, (dd ns).map kPW) from rfl]
    dsimp only
    rw [gd_pos hx]
    change lt (tok1 x) _ = _
    generalize tok1 x = l
    change cnd (!(!l.isEmpty)) _ _ = _
    have b1 : ((dd ss).map kPW).length < sizeLine := by
      have := (dd_spec ss).2.2
      rw [List.length_map]
      exact Nat.lt_of_le_of_lt (Nat.le_trans this (by show ss.length ≤ ss.length + es.length + ns.length; omega)) hs
    have b2 : ((dd es).map kEW).length < sizeLine := by
      have := (dd_spec es).2.2
      rw [List.length_map]
      exact Nat.lt_of_le_of_lt (Nat.le_trans this (by show es.length ≤ ss.length + es.length + ns.length; omega)) hs
    have b3 : ((dd ns).map kPW).length < sizeLine := by
      have := (dd_spec ns).2.2
      rw [List.length_map]
      exact Nat.lt_of_le_of_lt (Nat.le_trans this (by show ns.length ≤ ss.length + es.length + ns.length; omega)) hs
    cases l with
    | nil => rfl
    | cons a r =>
      show cnd false _ _ = _
      rw [cnd_f]
      cases many with
      | none =>
        rw [step_none rfl]
        simp only [at0, bnd_some, Option.isNone_none, cnd_t]
        have e1 : (cnd (decide (a = wStates) && decide (((a :: r).length : Int) = 2)) ((atI (a :: r) 1).bind fun (x35 : Wd) => (m_number_of x35).bind fun (r36 : (Option Int)) => some r36) (some none)) = some (states? (a :: r)) := by
          rcases r with _ | ⟨b, _ | ⟨d, r⟩⟩
          · rw [show decide ((([a] : List Wd).length : Int) = 2) = false from rfl, Bool.and_false]; rfl
          · rw [show decide ((([a, b] : List Wd).length : Int) = 2) = true from rfl, Bool.and_true, at1, bnd_some, number_of_eq]
            show cnd (decide (a = wStates)) _ _ = some (if a = wStates then _ else _)
            by_cases h : a = wStates
            · rw [decide_eq_true h, if_pos h]; rfl
            · rw [decide_eq_false h, if_neg h]; rfl
          · have : decide (((a :: b :: d :: r).length : Int) = 2) = false := decide_eq_false (by simp only [List.length_cons]; omega)
            rw [this, Bool.and_false]; rfl
        rw [e1, bnd_some]
        cases hst : states? (a :: r) with
        | none => rfl
        | some n =>
          have ha : a = wStates := by
            rcases r with _ | ⟨b, _ | ⟨d, r⟩⟩
            · cases hst
            · have hst : (if a = wStates then num? b else none) = some n := hst
              split at hst
              · assumption
              · cases hst
            · cases hst
          subst ha
          rfl
      | some m =>
        rw [step_some rfl]
        simp only [at0, bnd_some, Option.isNone_some, cnd_f]
        rw [cut1, edge_of_eq, pair_of_eq, row_cons, bnd_some, bnd_some]
        by_cases h1 : a = wEdge
        · subst h1
          rw [if_pos rfl]
          cases he : edge? m r with
          | none => rfl
          | some p =>
            show gd _ _ = _
            rw [gd_pos b2]
            show some (Ctl.nx (some m, (dd ss).map kPW, insK ((dd es).map kEW) (kEW p), (dd ns).map kPW)) = some (Ctl.nx (some m, (dd ss).map kPW, (dd (es ++ [p])).map kEW, (dd ns).map kPW))
            rw [dd_snoc, insK_map kEW_inj]
        · rw [if_neg h1]
          by_cases h2 : a = wStart
          · subst h2
            rw [if_pos rfl]
            cases he : pair? m r with
            | none => rfl
            | some p =>
              show gd _ _ = _
              rw [gd_pos b1]
              show some (Ctl.nx (some m, insK ((dd ss).map kPW) (kPW p), (dd es).map kEW, (dd ns).map kPW)) = some (Ctl.nx (some m, (dd (ss ++ [p])).map kPW, (dd es).map kEW, (dd ns).map kPW))
              rw [dd_snoc, insK_map kPW_inj]
          · rw [if_neg h2]
            by_cases h3 : a = wEnd
            · subst h3
              rw [if_pos rfl]
              cases he : pair? m r with
              | none => rfl
              | some p =>
                show gd _ _ = _
                rw [gd_pos b3]
                show some (Ctl.nx (some m, (dd ss).map kPW, (dd es).map kEW, insK ((dd ns).map kPW) (kPW p))) = some (Ctl.nx (some m, (dd ss).map kPW, (dd es).map kEW, (dd (ns ++ [p])).map kPW))
                rw [dd_snoc, insK_map kPW_inj]
            · rw [if_neg h3, show decide (a = [101, 100, 103, 101]) = false from decide_eq_false h1, show decide (a ∈ ([[115, 116, 97, 114, 116], [101, 110, 100]] : List Wd)) = false from decide_eq_false (by
                intro h
                rcases List.mem_cons.mp h with h | h
                · exact h2 h
                · exact h3 (List.mem_singleton.mp h))]
              rfl
  show Option.bind (some (match runT 1 (toks t) st0 with | .inl st' => Ctl.nx (rS st') | .inr j => Ctl.rt (Sum.inr j))) _ = _
  rw [bnd_some]
  cases runT 1 (toks t) st0 with
  | inr j => rfl
  | inl st =>
    obtain ⟨many, ss, es, ns⟩ := st
    cases many with
    | none => rfl
    | some m =>
      have k1 : (List.map keyD ((dd ss).map kPW)) = (dd ss).map cPW := by rw [List.map_map]; rfl
      have k2 : (List.map keyD ((dd es).map kEW)) = (dd es).map cEW := by rw [List.map_map]; rfl
      have k3 : (List.map keyD ((dd ns).map kPW)) = (dd ns).map cPW := by rw [List.map_map]; rfl
      dsimp only
      rw [show rS ⟨some m, ss, es, ns⟩ = (some m, (dd ss).map kPW, (dd es).map kEW, (dd ns).map kPW) from rfl]
      dsimp only
      rw [show (some m).isNone = false from rfl, cnd_f, k1, k2, k3, sort_dd flat_PW, sort_dd flat_EW, sort_dd flat_PW, three_eq, bnd_some]
      dsimp only
      refine (gd_pos (show 4 ≤ sizeLine by decide) _).trans ?_
      show some (Sum.inl (PyData.tuple [cI m, .tuple (List.map cP (List.map cPW (uniq cPW ss))), .tuple (List.map cP (List.map cEW (uniq cEW es))), .tuple (List.map cP (List.map cPW (uniq cPW ns)))])) = _
      rw [map_cP, map_cP, map_cP]
      rfl
end K44
end

section
set_option Elab.async false
set_option linter.all false
set_option maxRecDepth 100000
set_option maxHeartbeats 4000000
/-! k44, plain: what is due. -/
namespace K44
open PySem L2 Q TL
theorem run_shift : ∀ (ls : List (List Wd)) (k : Int) (st : St), runT (k + 1) ls st = match runT k ls st with | .inl st' => .inl st' | .inr j => .inr (j + 1)
  | [], k, st => rfl
  | l :: ls, k, st => by
    unfold runT
    cases stepT st l with
    | none => rfl
    | some st' => exact run_shift ls (k + 1) st'
theorem num_filter (t : Wd) : (num? t).filter (fun n => decide (n < 10000)) = num? t := by
  cases h : num? t with
  | none => rfl
  | some n => simp [Option.filter, (num_in h).1.2]
theorem due_eq (t : Wd) (ht : t.length + 2 ≤ sizeLine) : m_law_due t = some (dueD (finR (runT 1 (toks t) st0))) := by
  unfold m_law_due
  rw [gd_pos ht]
  obtain ⟨z1, z2⟩ := spl_sizes 10 t []
  have key := fun f hf => loop_run (R := PyData) f dS (fun k => cI (k + 1)) hf (TL.spl [10] 0 [] t) 0 st0 (by show 0 + 0 + 0 + _ ≤ _; omega) fun x hx => by
    have := z2 x hx
    rw [List.length_nil] at this
    omega
  change gd (((TL.spl [10] 0 [] t).length : Int) ≤ ((sizeLine : Nat) : Int) ∧ _) _ = _
  rw [gd_pos ⟨by omega, by omega⟩]
  show Option.bind (forC (fun (i : Int) s => (atI (TL.spl [10] 0 [] t) i).bind fun x => _) (rng (([] : List Wd).length : Int) (TL.spl [10] 0 [] t).length) (dS st0)) _ = _
  rw [loop_at _ (TL.spl [10] 0 [] t) (TL.spl [10] 0 [] t) [] _ rfl]
  have e0 : ((([] : List Wd).length : Nat) : Int) = 0 := rfl
  rw [e0, key]
  case hf =>
    intro k x st hs hx
    obtain ⟨many, ss, es, ns⟩ := st
    rw [show dS ⟨many, ss, es, ns⟩ = (many, ss.map cPW, es.map cEW, ns.map cPW) from rfl]
    dsimp only
    rw [gd_pos hx]
    change lt (tok1 x) _ = _
    generalize tok1 x = l
    have hsz : ss.length + es.length + ns.length < sizeLine := hs
    have b1 : (ss.map cPW).length < sizeLine := by rw [List.length_map]; omega
    have b2 : (es.map cEW).length < sizeLine := by rw [List.length_map]; omega
    have b3 : (ns.map cPW).length < sizeLine := by rw [List.length_map]; omega
    cases l with
    | nil => rfl
    | cons a r =>
      cases many with
      | none =>
        rw [step_none rfl]
        change cnd true _ _ = _
        simp only [cnd_t, at0, bnd_some, law_number_eq, num_filter]
        rcases r with _ | ⟨b, _ | ⟨d, r⟩⟩
        · rfl
        · rw [show decide ((([a, b] : List Wd).length : Int) = 2) = true from rfl, at1]
          simp only [bnd_some, Bool.not_true, cnd_f]
          have est : states? [a, b] = if a = wStates then num? b else none := rfl
          by_cases h : a = wStates
          · rw [est, if_pos h, show decide (a = [115, 116, 97, 116, 101, 115]) = true from decide_eq_true h]
            cases hn : num? b with
            | none => rfl
            | some n =>
              rw [(num_in hn).2]
              rfl
          · rw [est, if_neg h, show decide (a = [115, 116, 97, 116, 101, 115]) = false from decide_eq_false h]
            rfl
        · rw [show decide (((a :: b :: d :: r).length : Int) = 2) = false from decide_eq_false (by simp only [List.length_cons]; omega)]
          rfl
      | some m =>
        rw [step_some rfl]
        change cnd false _ _ = _
        rw [cnd_f]
        change cnd true _ _ = _
        simp only [cnd_t, at0, bnd_some, line_eq]
        rw [row_cons]
        by_cases h1 : a = wEdge
        · subst h1
          rw [if_pos rfl]
          cases he : edge? m r with
          | none => rfl
          | some p =>
            show gd _ _ = _
            rw [gd_pos b2]
            show some (Ctl.nx (some m, ss.map cPW, es.map cEW ++ [cEW p], ns.map cPW)) = some (Ctl.nx (some m, ss.map cPW, (es ++ [p]).map cEW, ns.map cPW))
            rw [List.map_append]; rfl
        · rw [if_neg h1]
          by_cases h2 : a = wStart
          · subst h2
            rw [if_pos rfl]
            cases he : pair? m r with
            | none => rfl
            | some p =>
              show gd _ _ = _
              rw [gd_pos b1]
              show some (Ctl.nx (some m, ss.map cPW ++ [cPW p], es.map cEW, ns.map cPW)) = some (Ctl.nx (some m, (ss ++ [p]).map cPW, es.map cEW, ns.map cPW))
              rw [List.map_append]; rfl
          · rw [if_neg h2]
            by_cases h3 : a = wEnd
            · subst h3
              rw [if_pos rfl]
              cases he : pair? m r with
              | none => rfl
              | some p =>
                show gd _ _ = _
                rw [gd_pos b3]
                show some (Ctl.nx (some m, ss.map cPW, es.map cEW, ns.map cPW ++ [cPW p])) = some (Ctl.nx (some m, ss.map cPW, es.map cEW, (ns ++ [p]).map cPW))
                rw [List.map_append]; rfl
            · rw [if_neg h3]
              rfl
  rw [show (1 : Int) = 0 + 1 from rfl, run_shift]
  show Option.bind (some (match runT 0 (toks t) st0 with | .inl st' => Ctl.nx (dS st') | .inr j => Ctl.rt (cI (j + 1)))) _ = _
  rw [bnd_some]
  have hsize : ∀ (ls : List (List Wd)) (k : Int) (st st' : St), runT k ls st = .inl st' → st'.size ≤ st.size + ls.length := by
    intro ls
    induction ls with
    | nil => intro k st st' h; cases h; exact Nat.le_refl _
    | cons l ls ih =>
      intro k st st' h
      unfold runT at h
      cases hs : stepT st l with
      | none => rw [hs] at h; cases h
      | some s1 =>
        rw [hs] at h
        have h1 := step_size hs
        have h2 := ih _ _ _ h
        rw [List.length_cons]; omega
  cases hr : runT 0 (toks t) st0 with
  | inr j => rfl
  | inl st =>
    have hz := hsize _ _ _ _ hr
    unfold toks at hz
    rw [List.length_map] at hz
    have hz : st.size ≤ 0 + 0 + 0 + _ := hz
    obtain ⟨many, ss, es, ns⟩ := st
    have hz : ss.length + es.length + ns.length ≤ 0 + 0 + 0 + _ := hz
    cases many with
    | none => rfl
    | some m =>
      dsimp only
      rw [show dS ⟨some m, ss, es, ns⟩ = (some m, ss.map cPW, es.map cEW, ns.map cPW) from rfl]
      dsimp only
      rw [show (some m).isNone = false from rfl, cnd_f, once_L flat_PW ss (by omega), bnd_some, once_L flat_EW es (by omega), bnd_some, once_L flat_PW ns (by omega), bnd_some, bnd_some]
      show some (PyData.tuple [cI m, .tuple (List.map cP (List.map cPW (uniq cPW ss))), .tuple (List.map cP (List.map cEW (uniq cEW es))), .tuple (List.map cP (List.map cPW (uniq cPW ns)))]) = _
      rw [map_cP, map_cP, map_cP]
      rfl
end K44
end

section
set_option Elab.async false
set_option linter.all false
set_option maxRecDepth 100000
set_option maxHeartbeats 4000000
/-! k44, plain: what a machine's form is, told twice. -/
namespace K44
open PySem L2 Q TL
open PySem.W (dataLt dataLe keyToks keyToksAll alike)
def stB (many : Int) : PyData → Bool
  | .int i => decide (0 ≤ i) && decide (i < many)
  | _ => false
def wdB : PyData → Bool
  | .str x => lets x.cps.toList
  | _ => false
def oneB : PyData → Bool
  | .str x => decide (x.cps.toList.length = 1)
  | _ => false
def pairB (many : Int) : PyData → Bool
  | .tuple [a, w] => stB many a && wdB w
  | _ => false
def edgeB (many : Int) : PyData → Bool
  | .tuple [a, z, w, b] => stB many a && stB many b && wdB z && oneB z && wdB w
  | _ => false
theorem is_state_eq (d : PyData) (many : Int) : m_is_state d many = some (stB many d) := by
  cases d <;> rfl
theorem law_is_state_eq (d : PyData) (many : Int) : m_law_is_state d many = some (stB many d) := by
  cases d with
  | int i =>
    unfold m_law_is_state
    simp only [isaInt, isaBool, asI, cnd_t, bnd_some, Bool.not_false]
    show _ = some (decide (0 ≤ i) && decide (i < many))
    by_cases h : 0 ≤ i
    · rw [show decide (i ≥ 0) = true from decide_eq_true h]; rfl
    · rw [show decide (i ≥ 0) = false from decide_eq_false h]; rfl
  | _ => rfl
theorem is_word_eqP (d : PyData) : m_is_word d = some (wdB d) := by
  cases d <;> rfl
theorem wd_step (d : PyData) : (cnd (!(isaStr (d))) (some true) ((asS d).bind fun (x19 : Wd) => some (!((List.map (fun (e20 : Nat) => (decide (e20 ∈ ([97, 98, 99, 100, 101, 102, 103, 104, 105, 106, 107, 108, 109, 110, 111, 112, 113, 114, 115, 116, 117, 118, 119, 120, 121, 122] : Wd)))) x19).all id)))) = some (!wdB d) := by
  cases d <;> rfl
theorem law_row_pair (d : PyData) (many : Int) : m_law_is_row d many 2 = some (pairB many d) := by
  cases d with
  | tuple ps =>
    rcases ps with _ | ⟨a, _ | ⟨w, _ | ⟨x, r⟩⟩⟩
    · rfl
    · rfl
    · unfold m_law_is_row
      simp only [isaTuple, asT, bnd_some, Bool.not_true, cnd_f, at0, at1, law_is_state_eq, show decide ((2 : Int) = 2) = true from rfl, cnd_t, show decide ((([a, w] : List PyData).length : Int) = 2) = true from rfl]
      show _ = some (stB many a && wdB w)
      cases stB many a with
      | false => rfl
      | true =>
        show Option.bind (forC _ [w] ()) _ = some (wdB w)
        unfold forC
        rw [wd_step]
        cases wdB w <;> rfl
    · unfold m_law_is_row
      simp only [isaTuple, asT, bnd_some, Bool.not_true, cnd_f, show decide (((a :: w :: x :: r : List PyData).length : Int) = 2) = false from decide_eq_false (by simp only [List.length_cons]; omega)]
      rfl
  | _ => rfl
theorem law_row_edge (d : PyData) (many : Int) : m_law_is_row d many 4 = some (edgeB many d) := by
  cases d with
  | tuple ps =>
    rcases ps with _ | ⟨a, _ | ⟨z, _ | ⟨w, _ | ⟨b, _ | ⟨x, r⟩⟩⟩⟩⟩
    · rfl
    · rfl
    · rfl
    · rfl
    · unfold m_law_is_row
      simp only [isaTuple, asT, bnd_some, Bool.not_true, cnd_f, at0, at1, at2, at3, law_is_state_eq, show decide ((4 : Int) = 2) = false from rfl, cnd_f, show decide ((([a, z, w, b] : List PyData).length : Int) = 4) = true from rfl]
      show _ = some (stB many a && stB many b && wdB z && oneB z && wdB w)
      cases stB many a with
      | false => rfl
      | true =>
        show Option.bind (forC _ [z, w] ()) _ = _
        unfold forC
        rw [wd_step]
        cases hz : wdB z with
        | false => rw [Bool.and_false, Bool.false_and, Bool.false_and]; rfl
        | true =>
          simp only [Bool.not_true, bnd_some, cnd_f]
          unfold forC
          rw [wd_step]
          cases hw : wdB w with
          | false => rw [Bool.and_false]; rfl
          | true =>
            cases z with
            | str x =>
              show Option.bind (Option.bind (cnd (decide ((x.cps.toList.length : Int) = 1)) _ _) _) _ = some (true && stB many b && true && decide (x.cps.toList.length = 1) && true)
              rw [show decide ((x.cps.toList.length : Int) = 1) = decide (x.cps.toList.length = 1) from decide_eq_decide.mpr (by omega)]
              cases decide (x.cps.toList.length = 1) <;> cases stB many b <;> rfl
            | _ => cases hz
    · unfold m_law_is_row
      simp only [isaTuple, asT, bnd_some, Bool.not_true, cnd_f, show decide (((a :: z :: w :: b :: x :: r : List PyData).length : Int) = 4) = false from decide_eq_false (by simp only [List.length_cons]; omega)]
      rfl
  | _ => rfl
end K44
end

section
set_option Elab.async false
set_option linter.all false
set_option maxRecDepth 100000
set_option maxHeartbeats 4000000
/-! k44, plain: machines of any form. -/
namespace K44
open PySem L2 Q TL
open PySem.W (dataLt dataLe keyToks keyToksAll alike)
theorem forC_all {α : Type} (f : α → Unit → Option (Ctl Unit Bool)) (p : α → Bool) (hf : ∀ x, f x () = some (if p x = true then .nx () else .rt false)) : ∀ xs, forC f xs () = some (if xs.all p = true then .nx () else .rt false)
  | [] => rfl
  | x :: xs => by
    unfold forC
    rw [hf, List.all_cons]
    cases p x with
    | false => rfl
    | true => exact forC_all f p hf xs
theorem compO_mem {α β : Type} {f : β → Unit → Option (α × Unit)} (g : β → α) : ∀ (xs : List β), (∀ x ∈ xs, f x () = some (g x, ())) → compO (fun _ _ => some true) f xs () = some (xs.map g, ())
  | [], _ => rfl
  | x :: xs, h => by
    rw [compO_cons, h x (List.mem_cons_self ..), bnd_some, compO_mem g xs fun y hy => h y (List.mem_cons_of_mem _ hy)]
    rfl
theorem S_cps (x : Str) : S x.cps.toList = x := by
  cases x
  rfl
theorem pairB_get {many : Int} {d : PyData} (h : pairB many d = true) : ∃ p : PW, d = cPW p := by
  cases d with
  | tuple ps =>
    rcases ps with _ | ⟨a, _ | ⟨w, _ | ⟨x, r⟩⟩⟩
    · cases h
    · cases h
    · have h : (stB many a && wdB w) = true := h
      rw [Bool.and_eq_true] at h
      cases a with
      | int i =>
        cases w with
        | str x => exact ⟨(i, x.cps.toList), by show _ = PyData.tuple [.int i, .str (S x.cps.toList)]; rw [S_cps]⟩
        | _ => cases h.2
      | _ => cases h.1
    · cases h
  | _ => cases h
theorem edgeB_get {many : Int} {d : PyData} (h : edgeB many d = true) : ∃ p : EW, d = cEW p := by
  cases d with
  | tuple ps =>
    rcases ps with _ | ⟨a, _ | ⟨z, _ | ⟨w, _ | ⟨b, _ | ⟨x, r⟩⟩⟩⟩⟩
    · cases h
    · cases h
    · cases h
    · cases h
    · have h : (stB many a && stB many b && wdB z && oneB z && wdB w) = true := h
      simp only [Bool.and_eq_true] at h
      cases a with
      | int i =>
        cases b with
        | int j =>
          cases z with
          | str x =>
            cases w with
            | str y => exact ⟨(i, x.cps.toList, y.cps.toList, j), by show _ = PyData.tuple [.int i, .str (S x.cps.toList), .str (S y.cps.toList), .int j]; rw [S_cps, S_cps]⟩
            | _ => cases h.2
          | _ => cases h.1.2
        | _ => cases h.1.1.1.2
      | _ => cases h.1.1.1.1
    · cases h
  | _ => cases h
theorem all_get {α : Type} {c : α → PyData} {b : PyData → Bool} (hg : ∀ d, b d = true → ∃ p, d = c p) : ∀ ps : List PyData, ps.all b = true → ∃ L : List α, ps = L.map c
  | [], _ => ⟨[], rfl⟩
  | d :: ps, h => by
    rw [List.all_cons, Bool.and_eq_true] at h
    obtain ⟨p, rfl⟩ := hg d h.1
    obtain ⟨L, rfl⟩ := all_get hg ps h.2
    exact ⟨p :: L, rfl⟩
def adjB {α : Type} (c : α → PyData) : List α → Bool
  | x :: y :: r => dataLt (c x) (c y) && adjB c (y :: r)
  | _ => true
theorem adj_iff {α : Type} (c : α → PyData) : ∀ L, adjB c L = true ↔ Asc c L
  | [] => ⟨fun _ => .nil, fun _ => rfl⟩
  | [x] => ⟨fun _ => List.pairwise_singleton .., fun _ => rfl⟩
  | x :: y :: r => by
    have ih := adj_iff c (y :: r)
    unfold adjB
    rw [Bool.and_eq_true, ih]
    constructor
    · rintro ⟨h1, h2⟩
      refine List.pairwise_cons.mpr ⟨fun z hz => ?_, h2⟩
      rcases List.mem_cons.mp hz with rfl | hz
      · exact h1
      · exact ltd_trans h1 ((List.pairwise_cons.mp h2).1 z hz)
    · intro h
      obtain ⟨h1, h2⟩ := List.pairwise_cons.mp h
      exact ⟨h1 y (List.mem_cons_self ..), h2⟩
theorem cut_drop {α : Type} (xs : List α) : cut xs (some 1) none = xs.drop 1 := by
  cases xs with
  | nil => rfl
  | cons a r => exact cut1 a r
theorem ltP_flat {α : Type} {c : α → PyData} (F : Flat c) (x y : α) : ltP (c x) (c y) = some (dataLt (c x) (c y)) := by
  unfold ltP
  refine if_pos ⟨F.alk x y, ?_, Nat.le_trans (F.dep x) (by decide)⟩
  obtain ⟨a, r, e⟩ := F.tup x
  rw [e]; rfl
theorem zip_adj {α : Type} (c : α → PyData) : ∀ L : List α, ((((L.map c).zip ((L.map c).drop 1)).map fun q : PyData × PyData => dataLt q.1 q.2).all id) = adjB c L
  | [] => rfl
  | [x] => rfl
  | x :: y :: r => by
    have ih := zip_adj c (y :: r)
    unfold adjB
    rw [← ih]
    rfl
theorem ascending_eq {α : Type} {c : α → PyData} (F : Flat c) (L : List α) : m_is_ascending (L.map c) = some (adjB c L) := by
  unfold m_is_ascending
  rw [cut_drop, compO_mem (fun q : PyData × PyData => dataLt q.1 q.2) _ fun q hq => ?_]
  · rw [bnd_some, zip_adj]
  · obtain ⟨h1, h2⟩ := List.of_mem_zip (show (q.1, q.2) ∈ _ from hq)
    obtain ⟨x, _, e1⟩ := List.mem_map.mp h1
    obtain ⟨y, _, e2⟩ := List.mem_map.mp (List.mem_of_mem_drop h2)
    rw [← e1, ← e2, ltP_flat F, bnd_some]
theorem eqvAll_map {α : Type} [DecidableEq α] {c : α → PyData} (F : Flat c) : ∀ L M : List α, PyData.eqvAll (L.map c) (M.map c) = decide (L = M)
  | [], [] => by simp [PyData.eqvAll]
  | [], _ :: _ => by simp [PyData.eqvAll]
  | _ :: _, [] => by simp [PyData.eqvAll]
  | x :: L, y :: M => by
    rw [List.map_cons, List.map_cons, PyData.eqvAll, F.eqv, eqvAll_map F L M]
    simp
theorem depthAll_map {α : Type} {c : α → PyData} (F : Flat c) : ∀ L : List α, PyData.depthAll (L.map c) ≤ 60
  | [] => by simp [PyData.depthAll]
  | x :: L => by
    rw [List.map_cons, PyData.depthAll]
    exact Nat.max_le.mpr ⟨F.dep x, depthAll_map F L⟩
theorem depth_map {α : Type} {c : α → PyData} (F : Flat c) (L : List α) : (PyData.tuple (L.map c)).depth ≤ 64 := by
  rw [PyData.depth]
  have := depthAll_map F L
  omega
theorem uniq_dec {α : Type} [DecidableEq α] {c : α → PyData} (F : Flat c) (L : List α) : decide (L = uniq c L) = adjB c L := by
  cases h : adjB c L with
  | true => exact decide_eq_true ((uniq_self F.inj).mpr ((adj_iff c L).mp h)).symm
  | false =>
    refine decide_eq_false fun e => ?_
    have := (adj_iff c L).mpr ((uniq_self F.inj).mp e.symm)
    rw [h] at this
    cases this
end K44
end

section
set_option Elab.async false
set_option linter.all false
set_option maxRecDepth 100000
set_option maxHeartbeats 4000000
/-! k44, plain: is_machine says what is due. -/
namespace K44
open PySem L2 Q TL
open PySem.W (dataLt dataLe keyToks keyToksAll alike)
theorem once_P {α : Type} [DecidableEq α] {c : α → PyData} (F : Flat c) (xs : List α) (h : xs.length ≤ sizeLine) : m_law_once_P (.tuple (xs.map c)) = some ((uniq c xs).map c) := by
  rw [← once_L F xs h]
  rfl
/-- rows that are rows of a machine, in order, each once -/
def rowsB {α : Type} (c : α → PyData) (b : PyData → Bool) (L : List α) : Bool := (L.map c).all b && adjB c L
theorem pairs_no {ps : List PyData} {many : Int} (h : ps.all (pairB many) = false) : m_are_pairs (.tuple ps) many = some false := by
  unfold m_are_pairs
  rw [show isaTuple (.tuple ps) = true from rfl, show asT (.tuple ps) = some ps from rfl]
  simp only [Bool.not_true, cnd_f, bnd_some]
  rw [forC_all _ (pairB many) fun d => ?_, h]
  · rfl
  · cases d with
    | tuple qs =>
      rcases qs with _ | ⟨a, _ | ⟨w, _ | ⟨x, r⟩⟩⟩
      · rfl
      · rfl
      · simp only [isaTuple, asT, bnd_some, Bool.not_true, cnd_f, at0, at1, is_state_eq, is_word_eqP, show decide ((([a, w] : List PyData).length : Int) = 2) = true from rfl]
        rw [show pairB many (.tuple [a, w]) = (stB many a && wdB w) from rfl]
        cases stB many a <;> cases wdB w <;> rfl
      · simp only [isaTuple, asT, bnd_some, Bool.not_true, cnd_f, show decide (((a :: w :: x :: r : List PyData).length : Int) = 2) = false from decide_eq_false (by simp only [List.length_cons]; omega)]
        rfl
    | _ => rfl
theorem pairs_yes {L : List PW} {many : Int} (h : (L.map cPW).all (pairB many) = true) : m_are_pairs (.tuple (L.map cPW)) many = some (adjB cPW L) := by
  unfold m_are_pairs
  rw [show isaTuple (.tuple (L.map cPW)) = true from rfl, show asT (.tuple (L.map cPW)) = some (L.map cPW) from rfl]
  simp only [Bool.not_true, cnd_f, bnd_some]
  rw [forC_all _ (pairB many) fun d => ?_, h]
  · show Option.bind (m_is_ascending (L.map cPW)) _ = _
    rw [ascending_eq flat_PW]
    rfl
  · cases d with
    | tuple qs =>
      rcases qs with _ | ⟨a, _ | ⟨w, _ | ⟨x, r⟩⟩⟩
      · rfl
      · rfl
      · simp only [isaTuple, asT, bnd_some, Bool.not_true, cnd_f, at0, at1, is_state_eq, is_word_eqP, show decide ((([a, w] : List PyData).length : Int) = 2) = true from rfl]
        rw [show pairB many (.tuple [a, w]) = (stB many a && wdB w) from rfl]
        cases stB many a <;> cases wdB w <;> rfl
      · simp only [isaTuple, asT, bnd_some, Bool.not_true, cnd_f, show decide (((a :: w :: x :: r : List PyData).length : Int) = 2) = false from decide_eq_false (by simp only [List.length_cons]; omega)]
        rfl
    | _ => rfl
theorem edge_body (d : PyData) (many : Int) : ((cnd (!(isaTuple (d))) (some true) ((asT d).bind fun (x5 : (List PyData)) => (cnd (!decide ((x5.length : Int) = 4)) (some true) ((asT d).bind fun (x6 : (List PyData)) => (atI x6 0).bind fun (x7 : PyData) => (m_is_state x7 many).bind fun (r8 : Bool) => (cnd (!r8) (some true) ((asT d).bind fun (x9 : (List PyData)) => (atI x9 3).bind fun (x10 : PyData) => (m_is_state x10 many).bind fun (r11 : Bool) => some (!r11))).bind fun (b12 : Bool) => some (b12))).bind fun (b14 : Bool) => some (b14))).bind fun (b16 : Bool) => cnd (b16) ( some (.rt false)) ((asT d).bind fun (x18 : (List PyData)) => (atI x18 1).bind fun (x19 : PyData) => (m_is_word x19).bind fun (r20 : Bool) => (cnd (!r20) (some true) ((asT d).bind fun (x21 : (List PyData)) => (atI x21 1).bind fun (x22 : PyData) => (asS x22).bind fun (x23 : Wd) => (cnd (!decide ((x23.length : Int) = 1)) (some true) ((asT d).bind fun (x24 : (List PyData)) => (atI x24 2).bind fun (x25 : PyData) => (m_is_word x25).bind fun (r26 : Bool) => some (!r26))).bind fun (b27 : Bool) => some (b27))).bind fun (b29 : Bool) => cnd (b29) ( some (.rt false)) ( some (.nx ()))) : Option (Ctl Unit Bool)) = some (if edgeB many d = true then .nx () else .rt false) := by
  cases d with
  | tuple qs =>
    rcases qs with _ | ⟨a, _ | ⟨z, _ | ⟨w, _ | ⟨b, _ | ⟨x, r⟩⟩⟩⟩⟩
    · rfl
    · rfl
    · rfl
    · rfl
    · simp only [isaTuple, asT, bnd_some, Bool.not_true, cnd_f, at0, at1, at2, at3, is_state_eq, is_word_eqP, show decide ((([a, z, w, b] : List PyData).length : Int) = 4) = true from rfl]
      rw [show edgeB many (.tuple [a, z, w, b]) = (stB many a && stB many b && wdB z && oneB z && wdB w) from rfl]
      cases stB many a <;> cases stB many b <;> try rfl
      cases hz : wdB z with
      | false => rfl
      | true =>
        cases z with
        | str x =>
          rw [show oneB (.str x) = decide (x.cps.toList.length = 1) from rfl, show asS (.str x) = some x.cps.toList from rfl]
          simp only [bnd_some, Bool.not_true, cnd_f]
          rw [show decide ((x.cps.toList.length : Int) = 1) = decide (x.cps.toList.length = 1) from decide_eq_decide.mpr (by omega)]
          cases decide (x.cps.toList.length = 1) <;> cases wdB w <;> rfl
        | _ => cases hz
    · simp only [isaTuple, asT, bnd_some, Bool.not_true, cnd_f, show decide (((a :: z :: w :: b :: x :: r : List PyData).length : Int) = 4) = false from decide_eq_false (by simp only [List.length_cons]; omega)]
      rfl
  | _ => rfl
theorem edges_no {ps : List PyData} {many : Int} (h : ps.all (edgeB many) = false) : m_are_edges (.tuple ps) many = some false := by
  unfold m_are_edges
  rw [show isaTuple (.tuple ps) = true from rfl, show asT (.tuple ps) = some ps from rfl]
  simp only [Bool.not_true, cnd_f, bnd_some]
  rw [forC_all _ (edgeB many) fun d => edge_body d many, h]
  rfl
theorem edges_yes {L : List EW} {many : Int} (h : (L.map cEW).all (edgeB many) = true) : m_are_edges (.tuple (L.map cEW)) many = some (adjB cEW L) := by
  unfold m_are_edges
  rw [show isaTuple (.tuple (L.map cEW)) = true from rfl, show asT (.tuple (L.map cEW)) = some (L.map cEW) from rfl]
  simp only [Bool.not_true, cnd_f, bnd_some]
  rw [forC_all _ (edgeB many) fun d => edge_body d many, h]
  show Option.bind (m_is_ascending (L.map cEW)) _ = _
  rw [ascending_eq flat_EW]
  rfl
end K44
end

section
set_option Elab.async false
set_option linter.all false
set_option maxRecDepth 100000
set_option maxHeartbeats 4000000
/-! k44, plain: is_machine and what is due, alike. -/
namespace K44
open PySem L2 Q TL
open PySem.W (dataLt dataLe keyToks keyToksAll alike)
def partL (d : PyData) (f : PyData → Unit → Option (Bool × Unit)) : Option (Ctl Unit Bool) :=
  cnd (!(isaTuple (d))) ( some (.rt false)) ((asT d).bind fun (x17 : (List PyData)) => (compO (fun (e18 : PyData) (s24 : Unit) => some true) f x17 ()).bind fun (l25 : List Bool × Unit) => cnd (!(l25.1.all id)) ( some (.rt false)) ((m_law_once_P d).bind fun (r30 : (List PyData)) => gd (PyData.depth (d) ≤ 64) <| gd (PyData.depth ((cT cP) r30) ≤ 64) <| cnd (!PyData.eqv (d) ((cT cP) r30)) ( some (.rt false)) ( some (.nx ()))))
def lenOk : PyData → Prop
  | .tuple ps => ps.length ≤ sizeLine
  | _ => True
theorem part_yes {α : Type} [DecidableEq α] {c : α → PyData} (F : Flat c) {b : PyData → Bool} {f : PyData → Unit → Option (Bool × Unit)} (hf : ∀ d, f d () = some (b d, ())) (L : List α) (hl : L.length ≤ sizeLine) (h : (L.map c).all b = true) :
    partL (.tuple (L.map c)) f = some (if adjB c L = true then .nx () else .rt false) := by
  unfold partL
  rw [show isaTuple (.tuple (L.map c)) = true from rfl, show asT (.tuple (L.map c)) = some (L.map c) from rfl, Bool.not_true, cnd_f, bnd_some, compO_mem b _ fun d _ => hf d, bnd_some]
  have : ((L.map c).map b).all id = true := by rw [List.all_map]; exact h
  dsimp only
  rw [this, Bool.not_true, cnd_f, once_P F L hl, bnd_some, gd_pos (depth_map F L)]
  have e : (cT cP) ((uniq c L).map c) = .tuple ((uniq c L).map c) := congrArg PyData.tuple (map_cP _)
  rw [e, gd_pos (depth_map F _), PyData.eqv, eqvAll_map F, uniq_dec F]
  cases adjB c L <;> rfl
theorem part_no {b : PyData → Bool} {f : PyData → Unit → Option (Bool × Unit)} (hf : ∀ d, f d () = some (b d, ())) {ps : List PyData} (h : ps.all b = false) :
    partL (.tuple ps) f = some (.rt false) := by
  unfold partL
  rw [show isaTuple (.tuple ps) = true from rfl, show asT (.tuple ps) = some ps from rfl, Bool.not_true, cnd_f, bnd_some, compO_mem b _ fun d _ => hf d, bnd_some]
  have : (ps.map b).all id = false := by rw [List.all_map]; exact h
  dsimp only
  rw [this]
  rfl
theorem part_pairs {f : PyData → Unit → Option (Bool × Unit)} (many : Int) (hf : ∀ d, f d () = some (pairB many d, ())) (d : PyData) (hl : lenOk d) : ∃ B, m_are_pairs d many = some B ∧ partL d f = some (if B = true then .nx () else .rt false) := by
  cases d with
  | tuple ps =>
    cases h : ps.all (pairB many) with
    | false => exact ⟨false, pairs_no h, part_no hf h⟩
    | true =>
      obtain ⟨L, rfl⟩ := all_get (c := cPW) (fun d => pairB_get) ps h
      have hl : (L.map cPW).length ≤ sizeLine := hl
      rw [List.length_map] at hl
      exact ⟨_, pairs_yes h, part_yes flat_PW hf L hl h⟩
  | _ => exact ⟨false, rfl, rfl⟩
theorem part_edges {f : PyData → Unit → Option (Bool × Unit)} (many : Int) (hf : ∀ d, f d () = some (edgeB many d, ())) (d : PyData) (hl : lenOk d) : ∃ B, m_are_edges d many = some B ∧ partL d f = some (if B = true then .nx () else .rt false) := by
  cases d with
  | tuple ps =>
    cases h : ps.all (edgeB many) with
    | false => exact ⟨false, edges_no h, part_no hf h⟩
    | true =>
      obtain ⟨L, rfl⟩ := all_get (c := cEW) (fun d => edgeB_get) ps h
      have hl : (L.map cEW).length ≤ sizeLine := hl
      rw [List.length_map] at hl
      exact ⟨_, edges_yes h, part_yes flat_EW hf L hl h⟩
  | _ => exact ⟨false, rfl, rfl⟩
theorem rng14 : rng 1 4 = [1, 2, 3] := rfl
theorem loop3 (F : Int → Unit → Option (Ctl Unit Bool)) {b1 b2 b3 : Bool} (h1 : F 1 () = some (if b1 = true then .nx () else .rt false)) (h2 : F 2 () = some (if b2 = true then .nx () else .rt false)) (h3 : F 3 () = some (if b3 = true then .nx () else .rt false)) :
    ((forC F [1, 2, 3] () : Option (Ctl Unit Bool)).bind fun | .nx s11 => some true | .bk _ => none | .rt q => some q) = some (b1 && b2 && b3) := by
  unfold forC forC forC forC
  rw [h1]
  cases b1 with
  | false => rfl
  | true =>
    show Option.bind (Option.bind (F 2 ()) _) _ = _
    rw [h2]
    cases b2 with
    | false => rfl
    | true =>
      show Option.bind (Option.bind (F 3 ()) _) _ = _
      rw [h3]
      cases b3 <;> rfl
theorem machine_four (n : Int) (h : n < 10 ^ 9) (A B C : PyData) (hA : lenOk A) (hB : lenOk B) (hC : lenOk C) : ∃ b, m_is_machine (.tuple [.int n, A, B, C]) = some b ∧ m_law_is_machine (.tuple [.int n, A, B, C]) = some b := by
  by_cases h0 : n < 0
  · refine ⟨false, ?_, ?_⟩
    · unfold m_is_machine
      simp only [isaTuple, asT, bnd_some, Bool.not_true, cnd_f, at0, asI, m_is_integer, isaInt, isaBool, show decide ((([.int n, A, B, C] : List PyData).length : Int) = 4) = true from rfl, decide_eq_true h0]
      rfl
    · unfold m_law_is_machine
      simp only [isaTuple, asT, bnd_some, Bool.not_true, cnd_f, at0, law_is_state_eq, show decide ((([.int n, A, B, C] : List PyData).length : Int) = 4) = true from rfl]
      rw [show stB (10 ^ 9) (.int n) = (decide (0 ≤ n) && decide (n < 10 ^ 9)) from rfl, decide_eq_false (show ¬ 0 ≤ n by omega)]
      rfl
  · let f2 : PyData → Unit → Option (Bool × Unit) := fun e18 s24 => (m_law_is_row e18 n 2).bind fun (r23 : Bool) => some (r23, ())
    let f4 : PyData → Unit → Option (Bool × Unit) := fun e18 s24 => (m_law_is_row e18 n 4).bind fun (r23 : Bool) => some (r23, ())
    have hf2 : ∀ d, f2 d () = some (pairB n d, ()) := fun d => by show Option.bind (m_law_is_row d n 2) _ = _; rw [law_row_pair]; rfl
    have hf4 : ∀ d, f4 d () = some (edgeB n d, ()) := fun d => by show Option.bind (m_law_is_row d n 4) _ = _; rw [law_row_edge]; rfl
    obtain ⟨b1, p1, q1⟩ := part_pairs n hf2 A hA
    obtain ⟨b2, p2, q2⟩ := part_edges n hf4 B hB
    obtain ⟨b3, p3, q3⟩ := part_pairs n hf2 C hC
    refine ⟨b1 && b2 && b3, ?_, ?_⟩
    · unfold m_is_machine
      simp only [isaTuple, asT, bnd_some, Bool.not_true, cnd_f, at0, at1, at2, at3, asI, m_is_integer, isaInt, isaBool, show decide ((([.int n, A, B, C] : List PyData).length : Int) = 4) = true from rfl, decide_eq_false h0, p1, p2, p3, Bool.not_false, Bool.and_true]
      cases b1 <;> cases b2 <;> cases b3 <;> rfl
    · unfold m_law_is_machine
      rw [show isaTuple (.tuple [.int n, A, B, C]) = true from rfl]
      simp only [show asT (.tuple [.int n, A, B, C]) = some [.int n, A, B, C] from rfl, bnd_some, Bool.not_true, cnd_f, at0, law_is_state_eq, show decide ((([.int n, A, B, C] : List PyData).length : Int) = 4) = true from rfl]
      rw [show stB (10 ^ 9) (.int n) = (decide (0 ≤ n) && decide (n < 10 ^ 9)) from rfl, decide_eq_true (show 0 ≤ n by omega), decide_eq_true h]
      simp only [Bool.and_true, Bool.not_true, cnd_f, bnd_some]
      rw [gd_pos (by decide), rng14]
      exact loop3 _ (Eq.trans rfl q1) (Eq.trans rfl q2) (Eq.trans rfl q3)
theorem machine_same (v : PyData) (h : ∀ ps, v = .tuple ps → ∀ d ∈ ps, lenOk d ∧ ∀ n, d = .int n → n < 10 ^ 9) : ∃ b, m_is_machine v = some b ∧ m_law_is_machine v = some b := by
  cases v with
  | tuple ps =>
    rcases ps with _ | ⟨a, _ | ⟨A, _ | ⟨B, _ | ⟨C, _ | ⟨x, r⟩⟩⟩⟩⟩
    · exact ⟨false, rfl, rfl⟩
    · exact ⟨false, rfl, rfl⟩
    · exact ⟨false, rfl, rfl⟩
    · exact ⟨false, rfl, rfl⟩
    · have hh := h _ rfl
      cases a with
      | int n => exact machine_four n ((hh _ (by simp)).2 n rfl) A B C (hh A (by simp)).1 (hh B (by simp)).1 (hh C (by simp)).1
      | _ => exact ⟨false, rfl, rfl⟩
    · refine ⟨false, ?_, ?_⟩
      · unfold m_is_machine
        rw [show isaTuple (.tuple (a :: A :: B :: C :: x :: r)) = true from rfl, show asT (.tuple (a :: A :: B :: C :: x :: r)) = some (a :: A :: B :: C :: x :: r) from rfl, Bool.not_true, cnd_f, bnd_some]
        rw [show decide (((a :: A :: B :: C :: x :: r : List PyData).length : Int) = 4) = false from decide_eq_false (by simp only [List.length_cons]; omega)]
        rfl
      · unfold m_law_is_machine
        rw [show isaTuple (.tuple (a :: A :: B :: C :: x :: r)) = true from rfl, show asT (.tuple (a :: A :: B :: C :: x :: r)) = some (a :: A :: B :: C :: x :: r) from rfl, Bool.not_true, cnd_f, bnd_some]
        rw [show decide (((a :: A :: B :: C :: x :: r : List PyData).length : Int) = 4) = false from decide_eq_false (by simp only [List.length_cons]; omega)]
        rfl
  | _ => exact ⟨false, rfl, rfl⟩
end K44
end

section
set_option Elab.async false
set_option linter.all false
set_option maxRecDepth 100000
set_option maxHeartbeats 4000000
/-! k44, plain: the bent values. -/
namespace K44
open PySem L2 Q TL
def GoodE (d : PyData) : Prop := lenOk d ∧ ∀ n, d = .int n → n < 10 ^ 9
def Good (v : PyData) : Prop := ∀ ps, v = .tuple ps → ∀ d ∈ ps, GoodE d
theorem setI_in {α : Type} {xs : List α} {i : Int} (x : α) (h0 : 0 ≤ i) (h1 : i < xs.length) : ∃ ys, setI xs i x = some ys ∧ (∀ d ∈ ys, d = x ∨ d ∈ xs) ∧ ys.length = xs.length := by
  obtain ⟨k, rfl⟩ := Int.eq_ofNat_of_zero_le h0
  refine ⟨xs.set k x, ?_, fun d hd => ?_, List.length_set⟩
  · unfold setI ixN
    rw [if_pos h0, if_pos h1]
    rfl
  · rcases List.mem_or_eq_of_mem_set hd with h | h
    · exact .inr h
    · exact .inl h
theorem good_tup {ps : List PyData} (h : ∀ d ∈ ps, GoodE d) : Good (.tuple ps) := fun qs e d hd => by
  cases e
  exact h d hd
theorem goodE_tup {ps : List PyData} (h : ps.length ≤ 1000) : GoodE (.tuple ps) := ⟨small_len h, fun n e => nomatch e⟩
theorem goodE_int {n : Int} (h : n < 10 ^ 9) : GoodE (.int n) := ⟨trivial, fun m e => by cases e; exact h⟩
theorem cP_map (ps : List PyData) : (cT cP) ps = .tuple ps := congrArg PyData.tuple (map_cP ps)
theorem bent_ok {c : CS} {m : Mach} (h : Ok c) (hm : PartsOk m) : wp (m_law_bent c m) fun r => Good r.1 ∧ Ok r.2 := by
  unfold m_law_bent
  have q0 := hm.m0
  have q1 := hm.m1
  have gI : GoodE (cI m.1) := goodE_int (by omega)
  have gS : GoodE (cT cPW m.2.1) := goodE_tup (by rw [List.length_map]; exact Nat.le_trans hm.ls (by decide))
  have gE : GoodE (cT cEW m.2.2.1) := goodE_tup (by rw [List.length_map]; exact Nat.le_trans hm.le (by decide))
  have gN : GoodE (cT cPW m.2.2.2) := goodE_tup (by rw [List.length_map]; exact Nat.le_trans hm.ln (by decide))
  refine wp_lt (wp_bind (take_ok h (by omega) (by omega)) fun a ha => wp_lt ?_)
  have gall : ∀ d ∈ [cI m.1, cT cPW m.2.1, cT cEW m.2.2.1, cT cPW m.2.2.2], GoodE d := fun d hd => by
    rcases List.mem_cons.mp hd with rfl | hd
    · exact gI
    rcases List.mem_cons.mp hd with rfl | hd
    · exact gS
    rcases List.mem_cons.mp hd with rfl | hd
    · exact gE
    · rw [List.mem_singleton.mp hd]; exact gN
  have hx5 : ∃ x6 : List PyData, atI [cI m.1, cT cPW m.2.1, cT cEW m.2.2.1, cT cPW m.2.2.2] (1 + a.1) = some (.tuple x6) ∧ x6.length ≤ 40 ∧ ∀ r ∈ x6, ∃ y, r = .tuple y ∧ 2 ≤ y.length ∧ y.length ≤ 4 := by
    have : a.1 = 0 ∨ a.1 = 1 ∨ a.1 = 2 := by omega
    rcases this with e | e | e
    · rw [e]
      refine ⟨_, rfl, by rw [List.length_map]; exact hm.ls, fun r hr => ?_⟩
      obtain ⟨p, _, rfl⟩ := List.mem_map.mp hr
      exact ⟨_, rfl, by show 2 ≤ 2; decide, by show 2 ≤ 4; decide⟩
    · rw [e]
      refine ⟨_, rfl, by rw [List.length_map]; exact hm.le, fun r hr => ?_⟩
      obtain ⟨p, _, rfl⟩ := List.mem_map.mp hr
      exact ⟨_, rfl, by show 2 ≤ 4; decide, by show 4 ≤ 4; decide⟩
    · rw [e]
      refine ⟨_, rfl, by rw [List.length_map]; exact hm.ln, fun r hr => ?_⟩
      obtain ⟨p, _, rfl⟩ := List.mem_map.mp hr
      exact ⟨_, rfl, by show 2 ≤ 2; decide, by show 2 ≤ 4; decide⟩
  obtain ⟨x6, e6, l6, r6⟩ := hx5
  refine wp_eq e6 (wp_eq (show asT (.tuple x6) = some x6 from rfl) (wp_bind (take_ok ha.2.2 (by omega) (by omega)) fun k hk => wp_cnd (fun _ => ?_) fun _ => ?_))
  · refine wp_bind (take_ok hk.2.2 (by omega) (by omega)) fun b hb => ?_
    obtain ⟨x, e, hx⟩ := atI_in (xs := [((fun _ => PyData.none) ()), (cB true), ((fun _ => PyData.tuple []) ()), ((c3 cI (cT cPW) (cT cEW)) (m.1, m.2.1, m.2.2.1)), ((c5 cI (cT cPW) (cT cEW) (cT cPW) (fun _ => PyData.tuple [])) (m.1, m.2.1, m.2.2.1, m.2.2.2, ())), (cS ([109, 97, 99, 104, 105, 110, 101] : Wd)), ((c4 cI (fun _ => PyData.tuple []) (fun _ => PyData.tuple []) (fun _ => PyData.tuple [])) ((0 - 1), (), (), ()))]) hb.1 hb.2.1
    refine wp_eq e ⟨_, rfl, ?_, hb.2.2⟩
    simp only [List.mem_cons, List.not_mem_nil, or_false] at hx
    rcases hx with rfl | rfl | rfl | rfl | rfl | rfl | rfl
    · exact fun _ e => nomatch e
    · exact fun _ e => nomatch e
    · exact good_tup fun _ h => nomatch h
    · exact good_tup fun d hd => gall d (by
        simp only [List.mem_cons, List.not_mem_nil, or_false] at hd ⊢
        rcases hd with h | h | h
        · exact .inl h
        · exact .inr (.inl h)
        · exact .inr (.inr (.inl h)))
    · refine good_tup fun d hd => ?_
      simp only [List.mem_cons, List.not_mem_nil, or_false] at hd
      rcases hd with rfl | rfl | rfl | rfl | rfl
      · exact gI
      · exact gS
      · exact gE
      · exact gN
      · exact goodE_tup (by decide)
    · exact fun _ e => nomatch e
    · refine good_tup fun d hd => ?_
      simp only [List.mem_cons, List.not_mem_nil, or_false] at hd
      rcases hd with rfl | rfl | rfl | rfl
      · exact goodE_int (by decide)
      · exact goodE_tup (by decide)
      · exact goodE_tup (by decide)
      · exact goodE_tup (by decide)
  · refine wp_bind (R := fun j => (∀ d ∈ j.2, GoodE d) ∧ Ok j.1) ?_ fun j hj => ⟨_, rfl, by
      show Good ((cT cP) j.2)
      rw [cP_map]
      exact good_tup hj.1, hj.2⟩
    refine wp_cnd (fun _ => ?_) fun _ => ?_
    · refine wp_eq (at0 _ _) (wp_eq rfl (wp_eq (at0 _ _) (wp_eq rfl (wp_gd ?_ (wp_eq (at0 _ _) (wp_eq rfl (wp_bind (take_ok hk.2.2 (by omega) (by omega)) fun b hb => ?_)))))))
      · have : m.1.natAbs ≤ 12 := by omega
        have : m.1.natAbs.log2 ≤ m.1.natAbs := Nat.log2_le_self _
        omega
      · obtain ⟨x, e, hx⟩ := atI_in (xs := [(cB true), (cI (m.1 - 1)), (cS (strI m.1)), (cI (m.1 + 1)), ((fun _ => PyData.none) ())]) hb.1 hb.2.1
        obtain ⟨ys, e2, h2, _⟩ := setI_in (xs := [cI m.1, cT cPW m.2.1, cT cEW m.2.2.1, cT cPW m.2.2.2]) x (Int.le_refl 0) (by show (0 : Int) < 4; decide)
        refine wp_eq e (wp_eq e2 ⟨_, rfl, fun d hd => ?_, hb.2.2⟩)
        rcases h2 d hd with rfl | hd
        · simp only [List.mem_cons, List.not_mem_nil, or_false] at hx
          rcases hx with rfl | rfl | rfl | rfl | rfl
          · exact ⟨trivial, fun _ e => nomatch e⟩
          · exact goodE_int (by omega)
          · exact ⟨trivial, fun _ e => nomatch e⟩
          · exact goodE_int (by omega)
          · exact ⟨trivial, fun _ e => nomatch e⟩
        · exact gall d hd
    · refine wp_bind (R := fun j => (∀ d ∈ j.2, GoodE d) ∧ Ok j.1) ?_ fun j hj => ⟨_, rfl, hj⟩
      have hin4 : (1 + a.1 : Int) < (([cI m.1, cT cPW m.2.1, cT cEW m.2.2.1, cT cPW m.2.2.2] : List PyData).length : Int) := by show (1 + a.1 : Int) < 4; omega
      refine wp_cnd (fun _ => ?_) fun _ => ?_
      · obtain ⟨ys, e2, h2, _⟩ := setI_in (xs := [cI m.1, cT cPW m.2.1, cT cEW m.2.2.1, cT cPW m.2.2.2]) (cL cP x6) (show 0 ≤ 1 + a.1 by omega) hin4
        refine wp_eq e2 ⟨_, rfl, fun d hd => ?_, hk.2.2⟩
        rcases h2 d hd with rfl | hd
        · exact ⟨trivial, fun _ e => nomatch e⟩
        · exact gall d hd
      · refine wp_bind (R := fun j => (∀ d ∈ j.2.1, GoodE d) ∧ Ok j.1) (wp_cnd (fun hne => ?_) fun _ => ⟨_, rfl, gall, hk.2.2⟩) fun j hj => ⟨_, rfl, hj⟩
        have hne : 0 < x6.length := by
          cases x6 with
          | nil => cases hne
          | cons _ _ => exact Nat.zero_lt_succ _
        refine wp_bind (take_ok hk.2.2 (by omega) (by omega)) fun b hb => ?_
        obtain ⟨x, e, hx⟩ := atI_in hb.1 hb.2.1
        obtain ⟨y, rfl, y2, y4⟩ := r6 x hx
        refine wp_eq e (wp_eq (show asT (.tuple y) = some y from rfl) ?_)
        refine wp_bind (R := fun j => j.2.2.length ≤ 1000 ∧ Ok j.1) ?_ fun j hj => ?_
        · refine wp_cnd (fun _ => wp_eq e (wp_gd (Nat.lt_of_lt_of_le (by omega : x6.length < 100) (by decide)) ⟨_, rfl, by show (x6 ++ [_]).length ≤ 1000; rw [List.length_append, List.length_singleton]; omega, hb.2.2⟩)) fun _ => ?_
          refine wp_bind (R := fun j => j.2.2.length ≤ 1000 ∧ Ok j.1) ?_ fun j hj => ⟨_, rfl, hj⟩
          refine wp_cnd (fun _ => ?_) fun _ => ?_
          · refine wp_bind (take_ok hb.2.2 (by omega) (by omega)) fun g hg => ?_
            obtain ⟨z, ez, _⟩ := atI_in (xs := [(cB true), (cS ([] : Wd)), (cS ([65] : Wd)), (cS ([97, 98] : Wd)), (cI (0 - 1)), ((fun _ => PyData.none) ()), (cI 99), (cS ([126] : Wd))]) hg.1 hg.2.1
            refine wp_eq ez (wp_bind (take_ok hg.2.2 (by omega) (by omega)) fun f hf => ?_)
            obtain ⟨y', e', _, _⟩ := setI_in z hf.1 hf.2.1
            obtain ⟨x', e'', _, hl⟩ := setI_in (cT cP y') hb.1 hb.2.1
            exact wp_eq e' (wp_eq e'' ⟨_, rfl, by show x'.length ≤ 1000; omega, hf.2.2⟩)
          · refine wp_bind (R := fun j => j.2.length ≤ 1000 ∧ Ok j.1) ?_ fun j hj => ⟨_, rfl, hj⟩
            refine wp_cnd (fun _ => ⟨_, rfl, by show x6.reverse.length ≤ 1000; rw [List.length_reverse]; omega, hb.2.2⟩) fun _ => ?_
            obtain ⟨w, ew, _⟩ := atI_in (xs := y) (Int.le_refl 0) (by omega)
            refine wp_eq ew (wp_gd (Nat.le_trans (show _ ≤ 1000 by show y.length + 1 ≤ 1000; omega) (by decide)) (wp_bind (take_ok hb.2.2 (by omega) (by omega)) fun g hg => ?_))
            obtain ⟨z, ez, _⟩ := atI_in (xs := [w, ((cT cP) (cut y none (some (0 - 1)))), ((cT cP) (y ++ (List.map cI ([0] : List Int))))]) hg.1 hg.2.1
            obtain ⟨x', e'', _, hl⟩ := setI_in z hb.1 hb.2.1
            exact wp_eq ez (wp_eq e'' ⟨_, rfl, by show x'.length ≤ 1000; omega, hg.2.2⟩)
        · obtain ⟨ys, e2, h2, _⟩ := setI_in (xs := [cI m.1, cT cPW m.2.1, cT cEW m.2.2.1, cT cPW m.2.2.2]) ((cT cP) j.2.2) (show 0 ≤ 1 + a.1 by omega) hin4
          refine wp_eq e2 ⟨_, rfl, fun d hd => ?_, hj.2⟩
          rcases h2 d hd with rfl | hd
          · rw [cP_map]; exact goodE_tup hj.1
          · exact gall d hd
end K44
end

section
set_option Elab.async false
set_option linter.all false
set_option maxRecDepth 100000
set_option maxHeartbeats 4000000
/-! k44, plain: the lines and the text of a machine. -/
namespace K44
open PySem L2 Q TL
theorem strI_nat (m : Nat) : strI (m : Int) = (Nat.toDigits 10 m).map Char.toNat := by
  unfold strI
  show (Nat.repr m).toList.map Char.toNat = _
  rw [Nat.toList_repr]
theorem digits_12 : ∀ m : Nat, m < 13 → (1 ≤ ((Nat.toDigits 10 m).map Char.toNat).length ∧ ((Nat.toDigits 10 m).map Char.toNat).length ≤ 2 ∧ digs ((Nat.toDigits 10 m).map Char.toNat) = true ∧ (((Nat.toDigits 10 m).map Char.toNat).length = 1 ∨ ((Nat.toDigits 10 m).map Char.toNat).head? ≠ some 48) ∧ PySem.NumText.digitsVal ((Nat.toDigits 10 m).map Char.toNat) = m) := by
  decide
theorem strI_spec {i : Int} (h0 : 0 ≤ i) (h1 : i < 13) : num? (strI i) = some i ∧ (strI i).length ≤ 2 ∧ strI i ≠ [] ∧ (∀ z ∈ strI i, 48 ≤ z ∧ z ≤ 57) := by
  obtain ⟨m, rfl⟩ := Int.eq_ofNat_of_zero_le h0
  obtain ⟨a, b, c, d, e⟩ := digits_12 m (by omega)
  rw [strI_nat]
  generalize (Nat.toDigits 10 m).map Char.toNat = t at *
  have ht : t ≠ [] := fun h => by rw [h] at a; exact absurd a (by decide)
  have hd := (digs_iff t).mp c
  refine ⟨?_, b, ht, hd⟩
  unfold num?
  rw [if_pos]
  · unfold intW
    have hl : (S t).length = t.length := by show (S t).cps.size = _; simp [S]
    rw [if_pos (by omega)]
    refine (PySem.intText_digits (x := S t) hd ht (by omega)).trans ?_
    show some ((PySem.NumText.digitsVal t : Nat) : Int) = _
    rw [e]
  · simp only [Bool.and_eq_true, Bool.or_eq_true, decide_eq_true_eq]
    exact ⟨⟨⟨a, by omega⟩, c⟩, d⟩
def tkW (w : Wd) : Wd := if w = [] then [45] else w
theorem tkW_eq (w : Wd) : (cnd (!decide (w = ([] : Wd))) ( some w) ( some ([45] : Wd))) = some (tkW w) := by
  unfold tkW
  by_cases h : w = []
  · rw [decide_eq_true h, if_pos h]; rfl
  · rw [decide_eq_false h, if_neg h]; rfl
def lnP (h : Wd) (p : PW) : List Wd := [h, strI p.1, tkW p.2]
def lnE (e : EW) : List Wd := [wEdge, strI e.1, e.2.1, tkW e.2.2.1, strI e.2.2.2]
def linesP (m : Mach) : List (List Wd) := (([[wStates, strI m.1]] ++ m.2.1.map (lnP wStart)) ++ m.2.2.1.map lnE) ++ m.2.2.2.map (lnP wEnd)
theorem log_small {i : Int} (h0 : 0 ≤ i) (h1 : i < 13) : i.natAbs.log2 < 1920 := by
  have := Nat.log2_le_self i.natAbs
  omega
theorem forS_snoc {α β : Type} (f : α → List β → Option (List β)) (g : α → β) (xs : List α) : ∀ s : List β, (∀ x ∈ xs, ∀ s : List β, s.length < sizeLine → f x s = some (s ++ [g x])) → s.length + xs.length ≤ sizeLine → forS f xs s = some (s ++ xs.map g) := by
  induction xs with
  | nil => intro s _ _; rw [List.map_nil, List.append_nil]; rfl
  | cons x xs ih =>
    intro s h hl
    rw [List.length_cons] at hl
    unfold forS
    rw [h x (List.mem_cons_self ..) s (by omega), bnd_some, ih _ (fun y hy => h y (List.mem_cons_of_mem _ hy)) (by rw [List.length_append, List.length_singleton]; omega), List.map_cons, List.append_assoc]
    rfl
theorem lines_eq {m : Mach} (hm : PartsOk m) : m_law_lines m = some (linesP m) := by
  have q0 := hm.m0
  have q1 := hm.m1
  have z : (200 : Nat) ≤ sizeLine := by decide
  have l1 := hm.ls
  have l2 := hm.le
  have l3 := hm.ln
  unfold m_law_lines
  rw [gd_pos (log_small q0 (by omega))]
  dsimp only [lt]
  rw [compO_mem (lnP wStart) m.2.1 fun p hp => ?_, bnd_some]
  · dsimp only
    rw [gd_pos (by rw [List.length_map]; show 1 + m.2.1.length ≤ sizeLine; omega)]
    rw [forS_snoc _ lnE m.2.2.1 _ (fun e he s hs => ?_) (by rw [List.length_append, List.length_map]; show 1 + m.2.1.length + _ ≤ _; omega), bnd_some]
    · rw [compO_mem (lnP wEnd) m.2.2.2 fun p hp => ?_, bnd_some]
      · dsimp only
        rw [gd_pos (by simp only [List.length_append, List.length_map]; show 1 + m.2.1.length + m.2.2.1.length + m.2.2.2.length ≤ sizeLine; omega)]
        rfl
      · obtain ⟨h1, _⟩ := hm.en p hp
        obtain ⟨a1, a2⟩ := h1
        rw [gd_pos (log_small a1 (by omega)), tkW_eq]
        rfl
    · obtain ⟨⟨a1, a2⟩, _, _, b1, b2⟩ := hm.ed e he
      rw [gd_pos (log_small a1 (by omega)), tkW_eq, bnd_some, gd_pos (log_small b1 (by omega)), gd_pos hs]
      rfl
  · obtain ⟨h1, _⟩ := hm.st p hp
    obtain ⟨a1, a2⟩ := h1
    rw [gd_pos (log_small a1 (by omega)), tkW_eq]
    rfl
end K44
end

section
set_option Elab.async false
set_option linter.all false
set_option maxRecDepth 100000
set_option maxHeartbeats 4000000
/-! k44, plain: the text of a machine. -/
namespace K44
open PySem L2 Q TL
def TokOk (w : Wd) : Prop := w ≠ [] ∧ w.length ≤ 8 ∧ ∀ z ∈ w, z ≠ 10 ∧ z ≠ 32 ∧ z < 128
def LinOk (k : Nat) (l : List Wd) : Prop := l.length ≤ k ∧ ∀ w ∈ l, TokOk w
def LinesOk (n k : Nat) (ls : List (List Wd)) : Prop := ls.length ≤ n ∧ ∀ l ∈ ls, LinOk k l
theorem tok_tkW {w : Wd} (h : w.length ≤ 2) (hl : Let w) : TokOk (tkW w) := by
  unfold tkW
  split
  · exact ⟨by decide, by decide, fun z hz => by rw [List.mem_singleton.mp hz]; decide⟩
  · rename_i hne
    exact ⟨hne, by omega, fun z hz => by have := hl z hz; omega⟩
theorem tok_strI {i : Int} (h0 : 0 ≤ i) (h1 : i < 13) : TokOk (strI i) := by
  obtain ⟨_, a, b, c⟩ := strI_spec h0 h1
  exact ⟨b, by omega, fun z hz => by have := c z hz; omega⟩
theorem tok_start : TokOk wStart := ⟨by decide, by decide, by decide⟩
theorem tok_edge : TokOk wEdge := ⟨by decide, by decide, by decide⟩
theorem tok_end : TokOk wEnd := ⟨by decide, by decide, by decide⟩
theorem tok_states : TokOk wStates := ⟨by decide, by decide, by decide⟩
theorem lin_P {many : Int} {h : Wd} {p : PW} (hh : TokOk h) (hm : many ≤ 12) (hp : PairOk many p) : LinOk 5 (lnP h p) := by
  obtain ⟨⟨a, b⟩, c, d⟩ := hp
  refine ⟨by show 3 ≤ 5; decide, fun w hw => ?_⟩
  rcases List.mem_cons.mp hw with rfl | hw
  · exact hh
  rcases List.mem_cons.mp hw with rfl | hw
  · exact tok_strI a (by omega)
  · rw [List.mem_singleton.mp hw]; exact tok_tkW c d
theorem lin_E {many : Int} {e : EW} (hm : many ≤ 12) (he : EdgeOk many e) : LinOk 5 (lnE e) := by
  obtain ⟨⟨a, b⟩, ⟨z, hz, z1, z2⟩, ⟨c, d⟩, e1, e2⟩ := he
  refine ⟨by show 5 ≤ 5; decide, fun w hw => ?_⟩
  rcases List.mem_cons.mp hw with rfl | hw
  · exact tok_edge
  rcases List.mem_cons.mp hw with rfl | hw
  · exact tok_strI a (by omega)
  rcases List.mem_cons.mp hw with rfl | hw
  · rw [hz]
    exact ⟨by simp, by simp, fun y hy => by rw [List.mem_singleton.mp hy]; omega⟩
  rcases List.mem_cons.mp hw with rfl | hw
  · exact tok_tkW c d
  · rw [List.mem_singleton.mp hw]; exact tok_strI e1 (by omega)
theorem linesP_ok {m : Mach} (hm : PartsOk m) : LinesOk 121 5 (linesP m) := by
  have l1 := hm.ls
  have l2 := hm.le
  have l3 := hm.ln
  have q0 := hm.m0
  have q1 := hm.m1
  refine ⟨by simp only [linesP, List.length_append, List.length_map, List.length_singleton]; omega, fun l hl => ?_⟩
  simp only [linesP, List.mem_append, List.mem_map, List.mem_singleton] at hl
  rcases hl with ((rfl | ⟨p, hp, rfl⟩) | ⟨e, he, rfl⟩) | ⟨p, hp, rfl⟩
  · refine ⟨by show 2 ≤ 5; decide, fun w hw => ?_⟩
    rcases List.mem_cons.mp hw with rfl | hw
    · exact tok_states
    · rw [List.mem_singleton.mp hw]; exact tok_strI q0 (by omega)
  · exact lin_P tok_start q1 (hm.st p hp)
  · exact lin_E q1 (hm.ed e he)
  · exact lin_P tok_end q1 (hm.en p hp)
theorem sum_le {l : List Wd} {k : Nat} (h : ∀ x ∈ l, x.length ≤ k) : (l.map (·.length)).sum ≤ l.length * k := by
  induction l with
  | nil => exact Nat.zero_le _
  | cons x l ih =>
    rw [List.map_cons, List.sum_cons, List.length_cons, Nat.succ_mul]
    have := h x (List.mem_cons_self ..)
    have := ih fun y hy => h y (List.mem_cons_of_mem _ hy)
    omega
theorem jl_len {k : Nat} {l : List Wd} (h : LinOk k l) : (TL.joinL [32] l).length ≤ 9 * k := by
  have h1 := joinL_len [32] l
  have h2 := sum_le (k := 8) fun x hx => (h.2 x hx).2.1
  have h3 := h.1
  have : l.length * ([32] : Wd).length = l.length := Nat.mul_one _
  omega
def rowN (l : List Wd) : Wd := TL.joinL [32] l ++ [10]
def txt (m : Mach) : Wd := TL.joinL [] ((linesP m).map rowN)
theorem rowN_len {k : Nat} {l : List Wd} (h : LinOk k l) : (rowN l).length ≤ 9 * k + 1 := by
  have := jl_len h
  unfold rowN
  rw [List.length_append, List.length_singleton]
  omega
theorem rows_sum {n k : Nat} {ls : List (List Wd)} (h : LinesOk n k ls) : ((ls.map rowN).map (·.length)).sum + (ls.map rowN).length * ([] : Wd).length ≤ n * (9 * k + 1) := by
  have h1 := sum_le (l := ls.map rowN) (k := 9 * k + 1) fun x hx => by
    obtain ⟨l, hl, rfl⟩ := List.mem_map.mp hx
    exact rowN_len (h.2 l hl)
  rw [List.length_map] at h1
  have h2 := Nat.mul_le_mul_right (9 * k + 1) h.1
  show _ + _ * 0 ≤ _
  omega
theorem txt_len {m : Mach} (hm : PartsOk m) : (txt m).length ≤ 6000 := by
  have h1 := joinL_len [] ((linesP m).map rowN)
  have h2 := rows_sum (linesP_ok hm)
  unfold txt
  omega
theorem text_eq {m : Mach} (hm : PartsOk m) : compO (fun (e16 : (List Wd)) (s19 : Unit) => some true) (fun (e16 : (List Wd)) (s19 : Unit) => gd ((e16.map (·.length)).sum + e16.length * ([32] : Wd).length ≤ 16777216) <| gd ((TL.joinL ([32] : Wd) e16).length + ([10] : Wd).length ≤ sizeLine) <| some ((TL.joinL ([32] : Wd) e16 ++ ([10] : Wd)), ())) (linesP m) () = some ((linesP m).map rowN, ()) := by
  refine compO_mem rowN _ fun l hl => ?_
  have h := (linesP_ok hm).2 l hl
  have h1 := jl_len h
  have h2 := sum_le (k := 8) fun x hx => (h.2 x hx).2.1
  have h3 := h.1
  have z : (200 : Nat) ≤ sizeLine := by decide
  rw [gd_pos (by show _ + l.length * 1 ≤ _; omega), gd_pos (by show _ + 1 ≤ _; omega)]
  rfl
theorem shown_eq (w : Wd) : m_shown w = some (tkW w) := by
  unfold m_shown
  rw [tkW_eq]
  rfl
theorem show_eq {m : Mach} (hm : PartsOk m) : m_show m = some (txt m) := by
  have q0 := hm.m0
  have q1 := hm.m1
  have z : (10000 : Nat) ≤ sizeLine := by decide
  have l1 := hm.ls
  have l2 := hm.le
  have l3 := hm.ln
  have dl : ∀ i : Int, 0 ≤ i → i < 13 → (strI i).length ≤ 2 := fun i h0 h1 => (strI_spec h0 h1).2.1
  have tl : ∀ w : Wd, w.length ≤ 2 → (tkW w).length ≤ 2 := fun w h => by
    unfold tkW
    split
    · decide
    · exact h
  unfold m_show
  rw [gd_pos (log_small q0 (by omega)), gd_pos (by have := dl m.1 q0 (by omega); show 7 + _ ≤ _; omega)]
  dsimp only [lt]
  rw [compO_mem (fun p => TL.joinL [32] (lnP wStart p)) m.2.1 fun p hp => ?_, bnd_some]
  · dsimp only
    rw [gd_pos (by rw [List.length_map]; show 1 + m.2.1.length ≤ sizeLine; omega)]
    rw [forS_snoc _ (fun e => TL.joinL [32] (lnE e)) m.2.2.1 _ (fun e he s hs => ?_) (by rw [List.length_append, List.length_map]; show 1 + m.2.1.length + _ ≤ _; omega), bnd_some]
    · rw [compO_mem (fun p => TL.joinL [32] (lnP wEnd p)) m.2.2.2 fun p hp => ?_, bnd_some]
      · dsimp only
        rw [gd_pos (by simp only [List.length_append, List.length_map]; show 1 + m.2.1.length + m.2.2.1.length + m.2.2.2.length ≤ sizeLine; omega)]
        have e : ([([115, 116, 97, 116, 101, 115, 32] : Wd) ++ strI m.1] ++ m.2.1.map (fun p => TL.joinL [32] (lnP wStart p)) ++ m.2.2.1.map (fun e => TL.joinL [32] (lnE e))) ++ m.2.2.2.map (fun p => TL.joinL [32] (lnP wEnd p)) = (linesP m).map (TL.joinL [32]) := by
          unfold linesP
          rw [List.map_append, List.map_append, List.map_append, List.map_map, List.map_map, List.map_map]
          rfl
        rw [e, compO_mem (fun l : Wd => l ++ [10]) _ fun l hl => ?_, bnd_some]
        · have e2 : ((linesP m).map (TL.joinL [32])).map (fun l : Wd => l ++ [10]) = (linesP m).map rowN := by rw [List.map_map]; rfl
          rw [e2]
          exact gd_pos (Nat.le_trans (rows_sum (linesP_ok hm)) (by decide)) _
        · obtain ⟨x, hx, rfl⟩ := List.mem_map.mp hl
          have := jl_len ((linesP_ok hm).2 x hx)
          rw [gd_pos (by show _ + 1 ≤ _; omega)]
      · obtain ⟨h1, h2, _⟩ := hm.en p hp
        obtain ⟨a1, a2⟩ := h1
        have := dl p.1 a1 (by omega)
        have := tl p.2 h2
        rw [gd_pos (log_small a1 (by omega)), gd_pos (by show 4 + _ ≤ _; omega), gd_pos (by rw [List.length_append]; show 4 + _ + 1 ≤ _; omega), shown_eq, bnd_some, gd_pos (by rw [List.length_append, List.length_append]; show 4 + _ + 1 + _ ≤ _; omega)]
        simp [lnP, TL.joinL, wEnd]
    · obtain ⟨⟨a1, a2⟩, ⟨y, hy, _⟩, ⟨c1, _⟩, b1, b2⟩ := hm.ed e he
      have := dl e.1 a1 (by omega)
      have := dl e.2.2.2 b1 (by omega)
      have := tl e.2.2.1 c1
      have hy1 : e.2.1.length = 1 := by rw [hy]; rfl
      rw [gd_pos (log_small a1 (by omega)), shown_eq, bnd_some, gd_pos (log_small b1 (by omega)), gd_pos (by simp only [List.map_cons, List.map_nil, List.sum_cons, List.sum_nil, List.length_cons, List.length_nil]; omega), gd_pos hs]
      rfl
  · obtain ⟨h1, h2, _⟩ := hm.st p hp
    obtain ⟨a1, a2⟩ := h1
    have := dl p.1 a1 (by omega)
    have := tl p.2 h2
    rw [gd_pos (log_small a1 (by omega)), gd_pos (by show 6 + _ ≤ _; omega), gd_pos (by rw [List.length_append]; show 6 + _ + 1 ≤ _; omega), shown_eq, bnd_some, gd_pos (by rw [List.length_append, List.length_append]; show 6 + _ + 1 + _ ≤ _; omega)]
    simp [lnP, TL.joinL, wStart]
end K44
end

section
set_option Elab.async false
set_option linter.all false
set_option maxRecDepth 100000
set_option maxHeartbeats 4000000
/-! k44, plain: the tokens of a text. -/
namespace K44
open PySem L2 Q TL
def Cln (w : Wd) : Prop := w ≠ [] ∧ 32 ∉ w ∧ 10 ∉ w
theorem cln_tok {w : Wd} (h : TokOk w) : Cln w := ⟨h.1, fun e => (h.2.2 32 e).2.1 rfl, fun e => (h.2.2 10 e).1 rfl⟩
theorem tk_nil : tok1 [] = [] := rfl
theorem tk_blank (l : Wd) : tok1 (32 :: l) = tok1 l := by
  unfold tok1
  have := spl_part1 (s := 32) (S := []) (p := []) (rest := l) (acc := []) (fun h => nomatch h)
  rw [show (32 :: l : Wd) = [] ++ (32 :: [] ++ l) from rfl, this]
  rfl
theorem tk_tok {w : Wd} (h : Cln w) (l : Wd) : tok1 (w ++ 32 :: l) = w :: tok1 l := by
  unfold tok1
  have := spl_part1 (s := 32) (S := []) (p := w) (rest := l) (acc := []) h.2.1
  rw [show (w ++ 32 :: l : Wd) = w ++ (32 :: [] ++ l) from rfl, this, List.nil_append, List.filter_cons, if_pos (by rw [decide_eq_false h.1]; rfl)]
  rfl
theorem tk_end {w : Wd} (h : Cln w) : tok1 w = [w] := by
  unfold tok1
  have := spl_last1 (s := 32) (S := []) (p := w) (acc := []) h.2.1
  rw [this, List.nil_append, List.filter_cons, if_pos (by rw [decide_eq_false h.1]; rfl)]
  rfl
theorem tk_blanks (k : Nat) (l : Wd) : tok1 (List.replicate k 32 ++ l) = tok1 l := by
  induction k with
  | zero => rfl
  | succ k ih => rw [List.replicate_succ, List.cons_append, tk_blank, ih]
/-- a text of which these are the tokens, whatever follows behind a blank -/
def Beg (u : Wd) (ts : List Wd) : Prop := tok1 u = ts ∧ ∀ l, tok1 (u ++ 32 :: l) = ts ++ tok1 l
theorem beg_nil : Beg [] [] := ⟨rfl, fun l => tk_blank l⟩
theorem beg_step {u : Wd} {ts : List Wd} {w : Wd} {k : Nat} (h : Beg u ts) (hw : Cln w) (hk : u ≠ [] → 0 < k) : Beg ((u ++ List.replicate k 32) ++ w) (ts ++ [w]) := by
  by_cases e : u = []
  · subst e
    have : ts = [] := h.1.symm.trans tk_nil
    subst this
    refine ⟨?_, fun l => ?_⟩
    · show tok1 (List.replicate k 32 ++ w) = _
      rw [tk_blanks, tk_end hw]; rfl
    · show tok1 ((List.replicate k 32 ++ w) ++ 32 :: l) = _
      rw [List.append_assoc, tk_blanks, tk_tok hw]; rfl
  · obtain ⟨j, rfl⟩ : ∃ j, k = j + 1 := ⟨k - 1, by have := hk e; omega⟩
    refine ⟨?_, fun l => ?_⟩
    · rw [List.replicate_succ, List.append_assoc, List.cons_append, h.2, tk_blanks, tk_end hw]
    · rw [List.replicate_succ, List.append_assoc, List.append_assoc, List.cons_append, List.append_assoc, h.2, tk_blanks, tk_tok hw]; simp
theorem beg_tail {u : Wd} {ts : List Wd} (h : Beg u ts) (k : Nat) : tok1 (u ++ List.replicate k 32) = ts := by
  cases k with
  | zero => rw [List.replicate_zero, List.append_nil]; exact h.1
  | succ k =>
    rw [List.replicate_succ, h.2]
    have := tk_blanks k []
    rw [List.append_nil] at this
    rw [this, tk_nil, List.append_nil]
/-- tokens with single blanks -/
theorem tk_join : ∀ ts : List Wd, (∀ w ∈ ts, Cln w) → tok1 (TL.joinL [32] ts) = ts
  | [], _ => rfl
  | [w], h => tk_end (h w (List.mem_cons_self ..))
  | w :: x :: r, h => by
    show tok1 (w ++ 32 :: TL.joinL [32] (x :: r)) = _
    rw [tk_tok (h w (List.mem_cons_self ..)), tk_join (x :: r) fun y hy => h y (List.mem_cons_of_mem _ hy)]
/-! lines -/
theorem joinL_app {c : Nat} : ∀ (ls ms : List Wd), ls ≠ [] → ms ≠ [] → TL.joinL [c] ls ++ c :: TL.joinL [c] ms = TL.joinL [c] (ls ++ ms)
  | [], _, h, _ => absurd rfl h
  | [p], [], _, h => absurd rfl h
  | [p], m :: ms, _, _ => rfl
  | p :: q :: r, ms, _, h => by
    show (p ++ (c :: TL.joinL [c] (q :: r))) ++ c :: TL.joinL [c] ms = p ++ (c :: TL.joinL [c] (q :: (r ++ ms)))
    rw [List.append_assoc, List.cons_append, joinL_app (q :: r) ms (by simp) h]
    rfl
theorem rows_join : ∀ ls : List Wd, TL.joinL [] (ls.map fun l => l ++ [10]) = TL.joinL [10] (ls ++ [[]])
  | [] => rfl
  | l :: ls => by
    rw [joinL_nil, List.map_cons, List.flatten_cons, ← joinL_nil, rows_join ls]
    cases ls with
    | nil => simp [TL.joinL]
    | cons q r =>
      show (l ++ [10]) ++ TL.joinL [10] (q :: (r ++ [[]])) = l ++ (10 :: TL.joinL [10] (q :: (r ++ [[]])))
      simp
theorem toks_join {ls : List Wd} (h : ls ≠ []) (h2 : ∀ l ∈ ls, 10 ∉ l) : toks (TL.joinL [10] ls) = ls.map tok1 := by
  unfold toks
  rw [spl_join h h2]
theorem no10_join {ts : List Wd} (h : ∀ w ∈ ts, 10 ∉ w) : 10 ∉ TL.joinL [32] ts := by
  induction ts with
  | nil => exact fun h => nomatch h
  | cons w r ih =>
    cases r with
    | nil => exact h w (List.mem_cons_self ..)
    | cons x r =>
      intro hm
      rcases List.mem_append.mp (show 10 ∈ w ++ ([32] ++ TL.joinL [32] (x :: r)) from hm) with hm | hm
      · exact h w (List.mem_cons_self ..) hm
      rcases List.mem_cons.mp hm with hm | hm
      · cases hm
      · exact ih (fun y hy => h y (List.mem_cons_of_mem _ hy)) hm
theorem toks_txt {m : Mach} (hm : PartsOk m) : toks (txt m) = linesP m ++ [[]] := by
  have ok := linesP_ok hm
  unfold txt
  have e : (linesP m).map rowN = ((linesP m).map (TL.joinL [32])).map fun l => l ++ [10] := by rw [List.map_map]; rfl
  rw [e, rows_join, toks_join (by simp) fun l hl => ?_]
  · rw [List.map_append, List.map_map]
    refine congrArg (· ++ _) ?_
    refine (List.map_congr_left fun l hl => ?_).trans (List.map_id _)
    exact tk_join l fun w hw => cln_tok ((ok.2 l hl).2 w hw)
  · rcases List.mem_append.mp hl with hl | hl
    · obtain ⟨x, hx, rfl⟩ := List.mem_map.mp hl
      exact no10_join fun w hw => (cln_tok ((ok.2 x hx).2 w hw)).2.2
    · rw [List.mem_singleton.mp hl]; exact fun h => nomatch h
/-- what stands behind the lines -/
theorem toks_end {ls : List Wd} {ts : List (List Wd)} (h : ls.map tok1 = ts) (h2 : ∀ l ∈ ls, 10 ∉ l) {x : Wd} (hx : x = [] ∨ x = [10] ∨ x = [10, 32, 10]) : ∃ k, k ≤ 3 ∧ toks (TL.joinL [10] ls ++ x) = ts ++ List.replicate k [] := by
  by_cases e : ls = []
  · subst e
    subst h
    rcases hx with rfl | rfl | rfl
    · exact ⟨1, by decide, rfl⟩
    · exact ⟨2, by decide, rfl⟩
    · exact ⟨3, by decide, rfl⟩
  · rcases hx with rfl | rfl | rfl
    · exact ⟨0, by decide, by rw [List.append_nil, toks_join e h2, h, List.replicate_zero, List.append_nil]⟩
    · refine ⟨1, by decide, ?_⟩
      have := joinL_app (c := 10) ls [[]] e (by simp)
      rw [show TL.joinL [10] ls ++ [10] = TL.joinL [10] ls ++ 10 :: TL.joinL [10] [[]] from rfl, this, toks_join (by simp) fun l hl => ?_, List.map_append, h]
      · rfl
      · rcases List.mem_append.mp hl with hl | hl
        · exact h2 l hl
        · rw [List.mem_singleton.mp hl]; exact fun h => nomatch h
    · refine ⟨2, by decide, ?_⟩
      have := joinL_app (c := 10) ls [[32], []] e (by simp)
      rw [show TL.joinL [10] ls ++ [10, 32, 10] = TL.joinL [10] ls ++ 10 :: TL.joinL [10] [[32], []] from rfl, this, toks_join (by simp) fun l hl => ?_, List.map_append, h]
      · rfl
      · rcases List.mem_append.mp hl with hl | hl
        · exact h2 l hl
        · rcases List.mem_cons.mp hl with rfl | hl
          · decide
          · rw [List.mem_singleton.mp hl]; exact fun h => nomatch h
theorem rep_blank (k : Nat) : (List.replicate k ([32] : Wd)).flatten = List.replicate k 32 := by
  induction k with
  | zero => rfl
  | succ k ih => rw [List.replicate_succ, List.flatten_cons, ih]; rfl
/-- the text that is drawn -/
theorem lawtext_ok {c : CS} {ls : List (List Wd)} {k : Nat} (h : Ok c) (hk : k ≤ 20) (hl : LinesOk 400 k ls) : wp (m_law_text c ls) fun r => (∃ e, e ≤ 3 ∧ toks r.1 = ls ++ List.replicate e []) ∧ r.1.length ≤ 200000 ∧ Ok r.2 := by
  unfold m_law_text
  have z : (1000000 : Nat) ≤ sizeLine := by decide
  refine wp_lt ?_
  refine wp_bind (wp_forS (I := fun r s => Ok s.1 ∧ (∃ d, ls = d ++ r ∧ s.2.map tok1 = d) ∧ (∀ l ∈ s.2, 10 ∉ l ∧ l.length ≤ 12 * k + 2) ∧ s.2.length + r.length = ls.length) ls (c, []) ⟨h, ⟨[], rfl, rfl⟩, (fun _ h => nomatch h), Nat.zero_add _⟩ fun x r s hx hs => ?_) fun s hs => ?_
  · obtain ⟨s1, ⟨d, e1, e2⟩, s3, s4⟩ := hs
    have hlx := hl.2 x hx
    rw [List.length_cons] at s4
    have hn := hl.1
    refine wp_lt (wp_bind (wp_forS (I := fun q t => Ok t.2 ∧ ∃ b, x = b ++ q ∧ Beg t.1 b ∧ 10 ∉ t.1 ∧ t.1.length ≤ 12 * b.length) x ([], s.1) ⟨s1, [], rfl, beg_nil, (fun h => nomatch h), Nat.zero_le _⟩ fun w q t hw ht => ?_) fun t ht => ?_)
    · obtain ⟨t1, b, f1, f2, f3, f4⟩ := ht
      have tw := hlx.2 w hw
      have hb : b.length + (q.length + 1) = x.length := by rw [f1, List.length_append, List.length_cons]
      have hx5 := hlx.1
      refine wp_bind (R := fun y => 0 ≤ y ∧ y ≤ 1 ∧ (t.1 ≠ [] → y = 1)) (wp_cnd (fun _ => ⟨_, rfl, by decide, by decide, fun _ => rfl⟩) fun hc => ⟨_, rfl, by decide, by decide, fun hne => ?_⟩) fun y hy => ?_
      · rw [decide_eq_false hne] at hc; cases hc
      refine wp_bind (take_ok t1 (by decide) (by decide)) fun a ha => ?_
      have hlen : ((List.replicate (y + a.1).toNat ([32] : Wd)).flatten).length ≤ 3 := by rw [rep_blank, List.length_replicate]; omega
      refine wp_gd ⟨by show 1 * _ ≤ _; omega, by omega, by omega⟩ (wp_gd (by omega) (wp_gd (by rw [List.length_append]; have := tw.2.1; omega) (wp_lt ⟨_, rfl, ha.2.2, b ++ [w], by rw [f1, List.append_assoc]; rfl, ?_, ?_, ?_⟩)))
      · rw [rep_blank]
        exact beg_step f2 (cln_tok tw) fun hne => by have := hy.2.2 hne; omega
      · show 10 ∉ (t.1 ++ (List.replicate _ _).flatten) ++ w
        rw [rep_blank]
        intro hm
        rcases List.mem_append.mp hm with hm | hm
        · rcases List.mem_append.mp hm with hm | hm
          · exact f3 hm
          · have := (List.mem_replicate.mp hm).2; cases this
        · exact (cln_tok tw).2.2 hm
      · show ((t.1 ++ (List.replicate _ _).flatten) ++ w).length ≤ _
        have := tw.2.1
        rw [List.length_append, List.length_append, List.length_append, List.length_singleton]
        omega
    · obtain ⟨t1, b, f1, f2, f3, f4⟩ := ht
      rw [List.append_nil] at f1
      subst f1
      have hx5 := hlx.1
      refine wp_bind (take_ok t1 (by decide) (by decide)) fun a ha => ?_
      have hlen : ((List.replicate a.1.toNat ([32] : Wd)).flatten).length ≤ 1 := by rw [rep_blank, List.length_replicate]; omega
      refine wp_gd ⟨by show 1 * _ ≤ _; omega, by omega, by omega⟩ (wp_gd (by omega) (wp_gd (by omega) ⟨_, rfl, ha.2.2, ⟨d ++ [x], by rw [e1, List.append_assoc]; rfl, ?_⟩, ?_, ?_⟩))
      · rw [List.map_append, e2]
        refine congrArg (d ++ ·) ?_
        show [tok1 (t.1 ++ (List.replicate _ _).flatten)] = _
        rw [rep_blank, beg_tail f2]
      · intro l hm
        rcases List.mem_append.mp hm with hm | hm
        · exact s3 l hm
        · rw [List.mem_singleton.mp hm]
          refine ⟨?_, by rw [List.length_append]; omega⟩
          rw [rep_blank]
          intro hm
          rcases List.mem_append.mp hm with hm | hm
          · exact f3 hm
          · have := (List.mem_replicate.mp hm).2; cases this
      · show (s.2 ++ [_]).length + _ = _
        rw [List.length_append, List.length_singleton]; omega
  · obtain ⟨s1, ⟨d, e1, e2⟩, s3, s4⟩ := hs
    rw [List.append_nil] at e1
    subst e1
    have hn := hl.1
    rw [List.length_nil, Nat.add_zero] at s4
    have h2 := sum_le (l := s.2) (k := 242) fun x hx => by have := (s3 x hx).2; omega
    have h3 : s.2.length * 242 ≤ 400 * 242 := Nat.mul_le_mul_right _ (by omega)
    have h4 := joinL_len [10] s.2
    have h5 : s.2.length * ([10] : Wd).length = s.2.length := Nat.mul_one _
    refine wp_gd (by omega) (wp_bind (take_ok s1 (by decide) (by decide)) fun a ha => ?_)
    obtain ⟨x, ex, hx⟩ := atI_in (xs := [([] : Wd), ([10] : Wd), ([10, 32, 10] : Wd)]) ha.1 ha.2.1
    simp only [List.mem_cons, List.not_mem_nil, or_false] at hx
    have hxl : x.length ≤ 3 := by rcases hx with rfl | rfl | rfl <;> decide
    refine wp_eq ex (wp_gd (by omega) ⟨_, rfl, toks_end e2 (fun l hl => (s3 l hl).1) hx, ?_, ha.2.2⟩)
    show (_ ++ x).length ≤ _
    rw [List.length_append]
    omega
end K44
end

section
set_option Elab.async false
set_option linter.all false
set_option maxRecDepth 100000
set_option maxHeartbeats 4000000
/-! k44, plain: the run over the lines of a machine. -/
namespace K44
open PySem L2 Q TL
open PySem.W (dataLt dataLe keyToks keyToksAll alike)
theorem word_tk {w : Wd} (h : Let w) : word? (tkW w) = some w := by
  unfold tkW word?
  by_cases e : w = []
  · rw [if_pos e, if_pos rfl, e]
  · rw [if_neg e, if_neg (fun h' => by
      have := h 45 (by rw [h']; exact List.mem_singleton.mpr rfl)
      omega), if_pos ((lets_iff w).mpr h)]
theorem pair_get {many : Int} {p : PW} (hm : many ≤ 12) (h : PairOk many p) : pair? many [strI p.1, tkW p.2] = some p := by
  obtain ⟨⟨a, b⟩, _, d⟩ := h
  show two? many (num? (strI p.1)) (word? (tkW p.2)) = _
  rw [(strI_spec a (by omega)).1, word_tk d]
  show (if p.1 < many then _ else _) = _
  rw [if_pos b]
theorem row_start {many : Int} {p : PW} (hm : many ≤ 12) (h : PairOk many p) : row? many (lnP wStart p) = some (.s p) := by
  show row? many (wStart :: [strI p.1, tkW p.2]) = _
  rw [row_cons, if_neg (by decide), if_pos rfl, pair_get hm h]
  rfl
theorem row_end {many : Int} {p : PW} (hm : many ≤ 12) (h : PairOk many p) : row? many (lnP wEnd p) = some (.n p) := by
  show row? many (wEnd :: [strI p.1, tkW p.2]) = _
  rw [row_cons, if_neg (by decide), if_neg (by decide), if_pos rfl, pair_get hm h]
  rfl
theorem row_edge {many : Int} {e : EW} (hm : many ≤ 12) (h : EdgeOk many e) : row? many (lnE e) = some (.e e) := by
  obtain ⟨⟨a, b⟩, ⟨z, hz, z1, z2⟩, ⟨_, d⟩, c1, c2⟩ := h
  show row? many (wEdge :: [strI e.1, e.2.1, tkW e.2.2.1, strI e.2.2.2]) = _
  rw [row_cons, if_pos rfl]
  have ho : one? e.2.1 = true := by
    unfold one?
    rw [hz, Bool.and_eq_true]
    exact ⟨rfl, (lets_iff _).mpr fun y hy => by rw [List.mem_singleton.mp hy]; exact ⟨z1, z2⟩⟩
  show (if one? e.2.1 = true then four? many e.2.1 (num? (strI e.1)) (word? (tkW e.2.2.1)) (num? (strI e.2.2.2)) else none).map Row.e = _
  rw [if_pos ho, (strI_spec a (by omega)).1, word_tk d, (strI_spec c1 (by omega)).1]
  have e1 : four? many e.2.1 (some e.1) (some e.2.2.1) (some e.2.2.2) = some e := by
    show (if e.1 < many ∧ e.2.2.2 < many then some (e.1, e.2.1, e.2.2.1, e.2.2.2) else none) = _
    rw [if_pos ⟨b, c2⟩]
  rw [e1]
  rfl
theorem run_rows {m : Int} : ∀ (X : List (List Wd)) (k : Int) (st : St), st.many = some m → (∀ x ∈ X, x = [] ∨ ∃ r, row? m x = some r) → ∃ st', runT k X st = .inl st' ∧ st'.many = some m ∧
    (∀ p, p ∈ st'.ss ↔ p ∈ st.ss ∨ ∃ x ∈ X, row? m x = some (.s p)) ∧ (∀ p, p ∈ st'.es ↔ p ∈ st.es ∨ ∃ x ∈ X, row? m x = some (.e p)) ∧ (∀ p, p ∈ st'.ns ↔ p ∈ st.ns ∨ ∃ x ∈ X, row? m x = some (.n p))
  | [], k, st, h, _ => ⟨st, rfl, h, fun p => by simp, fun p => by simp, fun p => by simp⟩
  | x :: X, k, st, h, hx => by
    have hX : ∀ y ∈ X, y = [] ∨ ∃ r, row? m y = some r := fun y hy => hx y (List.mem_cons_of_mem _ hy)
    unfold runT
    rcases hx x (List.mem_cons_self ..) with rfl | ⟨r, hr⟩
    · obtain ⟨st', e, a, b, c, d⟩ := run_rows X (k + 1) st h hX
      refine ⟨st', e, a, fun p => (b p).trans ?_, fun p => (c p).trans ?_, fun p => (d p).trans ?_⟩ <;> simp [row?]
    · have hs : stepT st x = some (st.add r) := by
        cases x with
        | nil => cases hr
        | cons a l => rw [step_some h, hr]; rfl
      rw [hs]
      have hm : (st.add r).many = some m := by cases r <;> exact h
      obtain ⟨st', e, a, b, c, d⟩ := run_rows X (k + 1) (st.add r) hm hX
      refine ⟨st', e, a, fun p => (b p).trans ?_, fun p => (c p).trans ?_, fun p => (d p).trans ?_⟩ <;> cases r <;> simp [St.add, hr, or_assoc, eq_comm]
theorem run_blanks (z : Nat) : ∀ (k : Int) (L : List (List Wd)) (st : St), ∃ k', runT k (List.replicate z [] ++ L) st = runT k' L st := by
  induction z with
  | zero => exact fun k L st => ⟨k, rfl⟩
  | succ z ih => exact fun k L st => ih (k + 1) L st
def rowsP (m : Mach) : List (List Wd) := (m.2.1.map (lnP wStart) ++ m.2.2.1.map lnE) ++ m.2.2.2.map (lnP wEnd)
theorem linesP_cons (m : Mach) : linesP m = [wStates, strI m.1] :: rowsP m := rfl
theorem mem_rowsP {m : Mach} {x : List Wd} : x ∈ rowsP m ↔ (∃ p ∈ m.2.1, lnP wStart p = x) ∨ (∃ e ∈ m.2.2.1, lnE e = x) ∨ ∃ p ∈ m.2.2.2, lnP wEnd p = x := by
  unfold rowsP
  simp only [List.mem_append, List.mem_map, or_assoc]
theorem run_mach {m : Mach} (hm : MOk m) (z : Nat) {X : List (List Wd)} (h1 : ∀ x ∈ X, x = [] ∨ x ∈ rowsP m) (h2 : ∀ x ∈ rowsP m, x ∈ X) : finR (runT 1 (List.replicate z [] ++ [wStates, strI m.1] :: X) st0) = .inl m := by
  obtain ⟨k, e⟩ := run_blanks z 1 ([wStates, strI m.1] :: X) st0
  rw [e]
  have q0 := hm.m0
  have q1 := hm.m1
  have hs : stepT st0 [wStates, strI m.1] = some ⟨some m.1, [], [], []⟩ := by
    rw [step_none rfl]
    show ((if wStates = wStates then num? (strI m.1) else none).map _) = _
    rw [if_pos rfl, (strI_spec q0 (by omega)).1]
    rfl
  unfold runT
  rw [hs]
  have rw1 : ∀ x ∈ rowsP m, ∃ r, row? m.1 x = some r := fun x hx => by
    rcases mem_rowsP.mp hx with ⟨p, hp, rfl⟩ | ⟨e, he, rfl⟩ | ⟨p, hp, rfl⟩
    · exact ⟨_, row_start q1 (hm.st p hp)⟩
    · exact ⟨_, row_edge q1 (hm.ed e he)⟩
    · exact ⟨_, row_end q1 (hm.en p hp)⟩
  obtain ⟨st', e', a, b, c, d⟩ := run_rows (m := m.1) X (k + 1) ⟨some m.1, [], [], []⟩ rfl fun x hx => (h1 x hx).imp id (rw1 x)
  show finR (runT (k + 1) X ⟨some m.1, [], [], []⟩) = _
  rw [e']
  show (match st'.many with | none => _ | some m => _) = _
  rw [a]
  have b' : ∀ p, p ∈ m.2.1 ↔ p ∈ st'.ss := fun p => by
    rw [b p]
    constructor
    · intro h
      exact .inr ⟨_, h2 _ (mem_rowsP.mpr (.inl ⟨p, h, rfl⟩)), row_start q1 (hm.st p h)⟩
    · rintro (h | ⟨x, hx, hr⟩)
      · cases h
      · rcases h1 x hx with rfl | hx
        · cases hr
        · rcases mem_rowsP.mp hx with ⟨q, hq, rfl⟩ | ⟨e, he, rfl⟩ | ⟨q, hq, rfl⟩
          · rw [row_start q1 (hm.st q hq)] at hr; cases hr; exact hq
          · rw [row_edge q1 (hm.ed e he)] at hr; cases hr
          · rw [row_end q1 (hm.en q hq)] at hr; cases hr
  have c' : ∀ p, p ∈ m.2.2.1 ↔ p ∈ st'.es := fun p => by
    rw [c p]
    constructor
    · intro h
      exact .inr ⟨_, h2 _ (mem_rowsP.mpr (.inr (.inl ⟨p, h, rfl⟩))), row_edge q1 (hm.ed p h)⟩
    · rintro (h | ⟨x, hx, hr⟩)
      · cases h
      · rcases h1 x hx with rfl | hx
        · cases hr
        · rcases mem_rowsP.mp hx with ⟨q, hq, rfl⟩ | ⟨e, he, rfl⟩ | ⟨q, hq, rfl⟩
          · rw [row_start q1 (hm.st q hq)] at hr; cases hr
          · rw [row_edge q1 (hm.ed e he)] at hr; cases hr; exact he
          · rw [row_end q1 (hm.en q hq)] at hr; cases hr
  have d' : ∀ p, p ∈ m.2.2.2 ↔ p ∈ st'.ns := fun p => by
    rw [d p]
    constructor
    · intro h
      exact .inr ⟨_, h2 _ (mem_rowsP.mpr (.inr (.inr ⟨p, h, rfl⟩))), row_end q1 (hm.en p h)⟩
    · rintro (h | ⟨x, hx, hr⟩)
      · cases h
      · rcases h1 x hx with rfl | hx
        · cases hr
        · rcases mem_rowsP.mp hx with ⟨q, hq, rfl⟩ | ⟨e, he, rfl⟩ | ⟨q, hq, rfl⟩
          · rw [row_start q1 (hm.st q hq)] at hr; cases hr
          · rw [row_edge q1 (hm.ed e he)] at hr; cases hr
          · rw [row_end q1 (hm.en q hq)] at hr; cases hr; exact hq
  show Sum.inl (m.1, uniq cPW st'.ss, uniq cEW st'.es, uniq cPW st'.ns) = _
  rw [uniq_eq flat_PW.inj hm.ast b', uniq_eq flat_EW.inj hm.aed c', uniq_eq flat_PW.inj hm.aen d']
theorem read_txt {m : Mach} (hm : MOk m) : m_read (txt m) = some (.inl (cMach m)) := by
  have z : (10000 : Nat) ≤ sizeLine := by decide
  have := txt_len hm.toPartsOk
  rw [read_eq _ (by omega), toks_txt hm.toPartsOk, linesP_cons]
  have := run_mach hm 0 (X := rowsP m ++ [[]]) (fun x hx => by
    rcases List.mem_append.mp hx with h | h
    · exact .inr h
    · exact .inl (List.mem_singleton.mp h)) fun x hx => List.mem_append.mpr (.inl hx)
  rw [List.replicate_zero, List.nil_append] at this
  rw [List.cons_append, this]
  rfl
/-! a machine is a machine -/
theorem stB_in {many i : Int} (h : In many i) : stB many (cI i) = true := by
  show (decide (0 ≤ i) && decide (i < many)) = true
  rw [decide_eq_true h.1, decide_eq_true h.2]; rfl
theorem wdB_let {w : Wd} (h : Let w) : wdB (cS w) = true := (lets_iff w).mpr h
theorem machine_yes {m : Mach} (hm : MOk m) : m_is_machine (cMach m) = some true := by
  have h1 : (m.2.1.map cPW).all (pairB m.1) = true := List.all_eq_true.mpr fun d hd => by
    obtain ⟨p, hp, rfl⟩ := List.mem_map.mp hd
    obtain ⟨a, b, c⟩ := hm.st p hp
    show (stB m.1 (cI p.1) && wdB (cS p.2)) = true
    rw [stB_in a, wdB_let c]; rfl
  have h2 : (m.2.2.1.map cEW).all (edgeB m.1) = true := List.all_eq_true.mpr fun d hd => by
    obtain ⟨e, he, rfl⟩ := List.mem_map.mp hd
    obtain ⟨a, ⟨z, hz, z1, z2⟩, ⟨_, c⟩, b⟩ := hm.ed e he
    show (stB m.1 (cI e.1) && stB m.1 (cI e.2.2.2) && wdB (cS e.2.1) && oneB (cS e.2.1) && wdB (cS e.2.2.1)) = true
    rw [stB_in a, stB_in b, wdB_let c, hz, wdB_let (fun y hy => by rw [List.mem_singleton.mp hy]; exact ⟨z1, z2⟩)]; rfl
  have h3 : (m.2.2.2.map cPW).all (pairB m.1) = true := List.all_eq_true.mpr fun d hd => by
    obtain ⟨p, hp, rfl⟩ := List.mem_map.mp hd
    obtain ⟨a, b, c⟩ := hm.en p hp
    show (stB m.1 (cI p.1) && wdB (cS p.2)) = true
    rw [stB_in a, wdB_let c]; rfl
  have p1 := pairs_yes h1
  have p2 := edges_yes h2
  have p3 := pairs_yes h3
  rw [(adj_iff cPW m.2.1).mpr hm.ast] at p1
  rw [(adj_iff cEW m.2.2.1).mpr hm.aed] at p2
  rw [(adj_iff cPW m.2.2.2).mpr hm.aen] at p3
  have q0 := hm.m0
  show m_is_machine (.tuple [.int m.1, .tuple (m.2.1.map cPW), .tuple (m.2.2.1.map cEW), .tuple (m.2.2.2.map cPW)]) = _
  unfold m_is_machine
  simp only [isaTuple, asT, bnd_some, Bool.not_true, cnd_f, at0, at1, at2, at3, asI, m_is_integer, isaInt, isaBool, show decide ((([.int m.1, .tuple (m.2.1.map cPW), .tuple (m.2.2.1.map cEW), .tuple (m.2.2.2.map cPW)] : List PyData).length : Int) = 4) = true from rfl, decide_eq_false (show ¬ m.1 < 0 by omega), p1, p2, p3, Bool.not_false, Bool.and_true]
  rfl
theorem empty_ok {n : Int} (h0 : 0 ≤ n) (h1 : n ≤ 12) : MOk (n, [], [], []) where
  m0 := h0
  m1 := h1
  st := fun _ h => nomatch h
  ed := fun _ h => nomatch h
  en := fun _ h => nomatch h
  ls := Nat.zero_le _
  le := Nat.zero_le _
  ln := Nat.zero_le _
  ast := .nil
  aed := .nil
  aen := .nil
end K44
end

section
set_option Elab.async false
set_option linter.all false
set_option maxRecDepth 100000
set_option maxHeartbeats 4000000
/-! k44, plain: lines with something turned; bounds of what is read. -/
namespace K44
open PySem L2 Q TL
theorem cut_to {α : Type} (xs : List α) (i : Nat) : cut xs none (some (i : Int)) = xs.take i := by
  unfold cut
  rw [HT.sIx_nat, HT.sIx_none, Nat.sub_zero, List.drop_zero]
  by_cases h : i ≤ xs.length
  · rw [Nat.min_eq_left h]
  · rw [Nat.min_eq_right (by omega), List.take_length, List.take_of_length_le (by omega)]
theorem cut_from {α : Type} (xs : List α) (i : Nat) : cut xs (some (i : Int)) none = xs.drop i := by
  unfold cut
  rw [HT.sIx_nat, HT.sIx_none]
  by_cases h : i ≤ xs.length
  · rw [Nat.min_eq_left h, List.take_of_length_le (by rw [List.length_drop]; omega)]
  · rw [Nat.min_eq_right (by omega), List.drop_length, List.drop_of_length_le (by omega), List.take_nil]
theorem lin_mono {j k : Nat} {l : List Wd} (h : LinOk j l) (hk : j ≤ k) : LinOk k l := ⟨Nat.le_trans h.1 hk, h.2⟩
theorem news_ok : ∀ w ∈ ([([48] : Wd), ([49] : Wd), ([51] : Wd), ([48, 55] : Wd), ([49, 50, 51, 52, 53] : Wd), ([57, 57, 57, 57] : Wd), ([45] : Wd), ([97] : Wd), ([97, 98] : Wd), ([65] : Wd), ([115, 116, 97, 116, 101, 115] : Wd), ([115, 116, 97, 114, 116] : Wd), ([101, 100, 103, 101] : Wd), ([101, 110, 100] : Wd), ([45, 45] : Wd), ([49, 97] : Wd)] ++ [([9] : Wd), ([126] : Wd)] : List Wd), TokOk w := by
  unfold TokOk
  decide
theorem broken_ok {c : CS} {ls : List (List Wd)} {n k : Nat} (h : Ok c) (hne : ls ≠ []) (hn : n ≤ 400) (hk : k ≤ 40) (hl : LinesOk n k ls) : wp (m_law_broken c ls) fun r => LinesOk n (k + 1) r.1 ∧ Ok r.2 := by
  have z : (1000 : Nat) ≤ sizeLine := by decide
  have h1 := hl.1
  have hpos : 0 < ls.length := List.length_pos_iff.mpr hne
  unfold m_law_broken
  refine wp_bind (take_ok h (by omega) (by omega)) fun a ha => ?_
  obtain ⟨i, hi⟩ := Int.eq_ofNat_of_zero_le ha.1
  have hi' : i < ls.length := by omega
  obtain ⟨x, ex, hx⟩ := atI_in ha.1 ha.2.1
  refine wp_eq ex (wp_bind (take_ok ha.2.2 (by decide) (by decide)) fun b hb => ?_)
  have e1 : cut ls none (some a.1) = ls.take i := by rw [hi]; exact cut_to ls i
  have e2 : cut ls (some (a.1 + 1)) none = ls.drop (i + 1) := by
    rw [hi, show ((i : Int) + 1) = ((i + 1 : Nat) : Int) by omega]; exact cut_from ls (i + 1)
  rw [e1, e2]
  have m1 : ∀ l ∈ ls.take i, LinOk (k + 1) l := fun l hm => lin_mono (hl.2 l (List.mem_of_mem_take hm)) (Nat.le_succ k)
  have m2 : ∀ l ∈ ls.drop (i + 1), LinOk (k + 1) l := fun l hm => lin_mono (hl.2 l (List.mem_of_mem_drop hm)) (Nat.le_succ k)
  have n1 : (ls.take i).length = i := by rw [List.length_take]; omega
  have n2 : (ls.drop (i + 1)).length = ls.length - (i + 1) := List.length_drop
  have hxk := hl.2 x hx
  refine wp_cnd (fun _ => wp_gd (by omega) ⟨_, rfl, ⟨by show (_ ++ _ : List (List Wd)).length ≤ n; rw [List.length_append]; omega, fun l hm => (List.mem_append.mp hm).elim (m1 l) (m2 l)⟩, hb.2.2⟩) fun _ => wp_cnd (fun _ => ?_) fun _ => ?_
  · refine wp_bind (take_ok hb.2.2 (by omega) (by omega)) fun d hd => ?_
    obtain ⟨j, hj⟩ := Int.eq_ofNat_of_zero_le hd.1
    have f1 : cut (ls.drop (i + 1)) none (some d.1) = (ls.drop (i + 1)).take j := by rw [hj]; exact cut_to _ j
    have f2 : cut (ls.drop (i + 1)) (some d.1) none = (ls.drop (i + 1)).drop j := by rw [hj]; exact cut_from _ j
    rw [f1, f2]
    have n3 : ((ls.drop (i + 1)).take j).length + ((ls.drop (i + 1)).drop j).length = ls.length - (i + 1) := by rw [← List.length_append, List.take_append_drop, n2]
    refine wp_gd (by omega) (wp_gd (by rw [List.length_append]; show _ + 1 ≤ _; omega) (wp_gd (by rw [List.length_append, List.length_append]; show _ + _ + 1 + _ ≤ _; omega) ⟨_, rfl, ⟨?_, fun l hm => ?_⟩, hd.2.2⟩))
    · show (((_ ++ _) ++ [x]) ++ _ : List (List Wd)).length ≤ n
      rw [List.length_append, List.length_append, List.length_append, List.length_singleton]
      omega
    · rcases List.mem_append.mp hm with hm | hm
      · rcases List.mem_append.mp hm with hm | hm
        · rcases List.mem_append.mp hm with hm | hm
          · exact m1 l hm
          · exact m2 l (List.mem_of_mem_take hm)
        · rw [List.mem_singleton.mp hm]; exact lin_mono hxk (Nat.le_succ k)
      · exact m2 l (List.mem_of_mem_drop hm)
  · have hxl := hxk.1
    refine wp_bind (take_ok hb.2.2 (by omega) (by omega)) fun d hd => wp_lt (wp_gd (by show 16 + 2 ≤ _; omega) (wp_lt (wp_bind (take_ok hd.2.2 (by decide) (by decide)) fun g hg => ?_)))
    obtain ⟨w, ew, hw⟩ := atI_in hg.1 hg.2.1
    have tw := news_ok w hw
    obtain ⟨j, hj⟩ := Int.eq_ofNat_of_zero_le hd.1
    have f1 : cut x none (some d.1) = x.take j := by rw [hj]; exact cut_to _ j
    have f2 : cut x (some d.1) none = x.drop j := by rw [hj]; exact cut_from _ j
    have f3 : cut x (some (d.1 + 1)) none = x.drop (j + 1) := by
      rw [hj, show ((j : Int) + 1) = ((j + 1 : Nat) : Int) by omega]; exact cut_from _ _
    rw [f1, f2, f3]
    have n3 : (x.take j).length + (x.drop j).length = x.length := by rw [← List.length_append, List.take_append_drop]
    have n4 : (x.drop (j + 1)).length ≤ (x.drop j).length := by rw [List.length_drop, List.length_drop]; omega
    have k1 : ∀ u ∈ x.take j, TokOk u := fun u hu => hxk.2 u (List.mem_of_mem_take hu)
    have k2 : ∀ u ∈ x.drop j, TokOk u := fun u hu => hxk.2 u (List.mem_of_mem_drop hu)
    have k3 : ∀ u ∈ x.drop (j + 1), TokOk u := fun u hu => hxk.2 u (List.mem_of_mem_drop hu)
    refine wp_eq ew (wp_bind (R := fun y => LinOk (k + 1) y) (wp_cnd (fun _ => ?_) fun _ => wp_bind (R := fun y => LinOk (k + 1) y) (wp_cnd (fun _ => ?_) fun _ => ?_) fun y hy => ⟨_, rfl, hy⟩) fun y hy => ?_)
    · refine wp_gd (by show _ + 1 ≤ _; omega) (wp_gd (by rw [List.length_append]; show _ + 1 + _ ≤ _; omega) (wp_lt ⟨_, rfl, ?_, fun u hu => ?_⟩))
      · rw [List.length_append, List.length_append, List.length_singleton]; omega
      · rcases List.mem_append.mp hu with hu | hu
        · rcases List.mem_append.mp hu with hu | hu
          · exact k1 u hu
          · rw [List.mem_singleton.mp hu]; exact tw
        · exact k2 u hu
    · refine wp_gd (by omega) (wp_lt ⟨_, rfl, ?_, fun u hu => ?_⟩)
      · rw [List.length_append]; omega
      · exact (List.mem_append.mp hu).elim (k1 u) (k3 u)
    · refine wp_gd (by show _ + 1 ≤ _; omega) (wp_gd (by rw [List.length_append]; show _ + 1 + _ ≤ _; omega) (wp_lt ⟨_, rfl, ?_, fun u hu => ?_⟩))
      · rw [List.length_append, List.length_append, List.length_singleton]; omega
      · rcases List.mem_append.mp hu with hu | hu
        · rcases List.mem_append.mp hu with hu | hu
          · exact k1 u hu
          · rw [List.mem_singleton.mp hu]; exact tw
        · exact k3 u hu
    · refine wp_gd (by show _ + 1 ≤ _; omega) (wp_gd (by rw [List.length_append]; show _ + 1 + _ ≤ _; omega) ⟨_, rfl, ⟨?_, fun l hm => ?_⟩, hg.2.2⟩)
      · show ((_ ++ [y]) ++ _ : List (List Wd)).length ≤ n
        rw [List.length_append, List.length_append, List.length_singleton]; omega
      · rcases List.mem_append.mp hm with hm | hm
        · rcases List.mem_append.mp hm with hm | hm
          · exact m1 l hm
          · rw [List.mem_singleton.mp hm]; exact hy
        · exact m2 l hm
/-! what is read is small -/
def SWd (w : Wd) : Prop := w.length ≤ 8 ∧ ∀ z ∈ w, z < 128
def SPW (p : PW) : Prop := In 10000 p.1 ∧ SWd p.2
def SEW (e : EW) : Prop := In 10000 e.1 ∧ SWd e.2.1 ∧ SWd e.2.2.1 ∧ In 10000 e.2.2.2
def SRow : Row → Prop
  | .s p => SPW p
  | .e e => SEW e
  | .n p => SPW p
structure SSt (st : St) : Prop where
  ss : ∀ p ∈ st.ss, SPW p
  es : ∀ e ∈ st.es, SEW e
  ns : ∀ p ∈ st.ns, SPW p
  many : ∀ m, st.many = some m → In 10000 m
theorem swd_tok {w : Wd} (h : TokOk w) : SWd w := ⟨h.2.1, fun z hz => (h.2.2 z hz).2.2⟩
theorem swd_word {w u : Wd} (h : TokOk w) (e : word? w = some u) : SWd u := by
  unfold word? at e
  split at e
  · cases e; exact ⟨by decide, fun _ h => nomatch h⟩
  · split at e
    · cases e; exact swd_tok h
    · cases e
theorem pair_small {m : Int} {l : List Wd} {p : PW} (hl : ∀ w ∈ l, TokOk w) (h : pair? m l = some p) : SPW p := by
  rcases l with _ | ⟨a, _ | ⟨w, _ | ⟨x, r⟩⟩⟩
  · cases h
  · cases h
  · have h : two? m (num? a) (word? w) = some p := h
    cases ha : num? a with
    | none => rw [ha] at h; cases h
    | some i =>
      cases hw : word? w with
      | none => rw [ha, hw] at h; cases h
      | some u =>
        rw [ha, hw] at h
        have h : (if i < m then some (i, u) else none) = some p := h
        split at h
        · cases h
          exact ⟨(num_in ha).1, swd_word (hl w (by simp)) hw⟩
        · cases h
  · cases h
theorem edge_small {m : Int} {l : List Wd} {e : EW} (hl : ∀ w ∈ l, TokOk w) (h : edge? m l = some e) : SEW e := by
  rcases l with _ | ⟨a, _ | ⟨y, _ | ⟨w, _ | ⟨b, _ | ⟨x, r⟩⟩⟩⟩⟩
  · cases h
  · cases h
  · cases h
  · cases h
  · have h : (if one? y = true then four? m y (num? a) (word? w) (num? b) else none) = some e := h
    split at h
    · cases ha : num? a with
      | none => rw [ha] at h; cases h
      | some i =>
        cases hw : word? w with
        | none => rw [ha, hw] at h; cases h
        | some u =>
          cases hb : num? b with
          | none => rw [ha, hw, hb] at h; cases h
          | some j =>
            rw [ha, hw, hb] at h
            have h : (if i < m ∧ j < m then some (i, y, u, j) else none) = some e := h
            split at h
            · cases h
              exact ⟨(num_in ha).1, swd_tok (hl y (by simp)), swd_word (hl w (by simp)) hw, (num_in hb).1⟩
            · cases h
    · cases h
  · cases h
theorem row_small {m : Int} {l : List Wd} {r : Row} (hl : ∀ w ∈ l, TokOk w) (h : row? m l = some r) : SRow r := by
  cases l with
  | nil => cases h
  | cons a l =>
    have hl' : ∀ w ∈ l, TokOk w := fun w hw => hl w (List.mem_cons_of_mem _ hw)
    rw [row_cons] at h
    split at h
    · cases he : edge? m l with
      | none => rw [he] at h; cases h
      | some e => rw [he] at h; cases h; exact edge_small hl' he
    · split at h
      · cases he : pair? m l with
        | none => rw [he] at h; cases h
        | some e => rw [he] at h; cases h; exact pair_small hl' he
      · split at h
        · cases he : pair? m l with
          | none => rw [he] at h; cases h
          | some e => rw [he] at h; cases h; exact pair_small hl' he
        · cases h
theorem step_small {st st' : St} {l : List Wd} (hs : SSt st) (hl : ∀ w ∈ l, TokOk w) (h : stepT st l = some st') : SSt st' := by
  cases l with
  | nil => cases h; exact hs
  | cons a r =>
    cases hm : st.many with
    | none =>
      rw [step_none hm] at h
      cases he : states? (a :: r) with
      | none => rw [he] at h; cases h
      | some n =>
        rw [he] at h
        cases h
        refine ⟨hs.ss, hs.es, hs.ns, fun m e => ?_⟩
        cases e
        rcases r with _ | ⟨b, _ | ⟨d, r⟩⟩
        · cases he
        · have he : (if a = wStates then num? b else none) = some n := he
          split at he
          · exact (num_in he).1
          · cases he
        · cases he
    | some m =>
      rw [step_some hm] at h
      cases he : row? m (a :: r) with
      | none => rw [he] at h; cases h
      | some x =>
        rw [he] at h
        cases h
        have hr := row_small hl he
        cases x with
        | s p =>
          refine ⟨fun q hq => ?_, hs.es, hs.ns, hs.many⟩
          rcases List.mem_append.mp (show q ∈ st.ss ++ [p] from hq) with hq | hq
          · exact hs.ss q hq
          · rw [List.mem_singleton.mp hq]; exact hr
        | e p =>
          refine ⟨hs.ss, fun q hq => ?_, hs.ns, hs.many⟩
          rcases List.mem_append.mp (show q ∈ st.es ++ [p] from hq) with hq | hq
          · exact hs.es q hq
          · rw [List.mem_singleton.mp hq]; exact hr
        | n p =>
          refine ⟨hs.ss, hs.es, fun q hq => ?_, hs.many⟩
          rcases List.mem_append.mp (show q ∈ st.ns ++ [p] from hq) with hq | hq
          · exact hs.ns q hq
          · rw [List.mem_singleton.mp hq]; exact hr
theorem run_small : ∀ (L : List (List Wd)) (k : Int) (st : St), SSt st → (∀ l ∈ L, ∀ w ∈ l, TokOk w) → (∃ st', runT k L st = .inl st' ∧ SSt st' ∧ st'.size ≤ st.size + L.length) ∨ ∃ j, runT k L st = .inr j ∧ k ≤ j ∧ j ≤ k + L.length
  | [], k, st, hs, _ => .inl ⟨st, rfl, hs, Nat.le_refl _⟩
  | l :: L, k, st, hs, hl => by
    unfold runT
    cases he : stepT st l with
    | none => exact .inr ⟨k, rfl, Int.le_refl _, by rw [List.length_cons]; omega⟩
    | some st1 =>
      have h1 := step_small hs (hl l (List.mem_cons_self ..)) he
      have h2 := step_size he
      rcases run_small L (k + 1) st1 h1 fun y hy => hl y (List.mem_cons_of_mem _ hy) with ⟨st', e, a, b⟩ | ⟨j, e, a, b⟩
      · exact .inl ⟨st', e, a, by rw [List.length_cons]; omega⟩
      · exact .inr ⟨j, e, by omega, by rw [List.length_cons]; omega⟩
theorem wI {i : Int} (h : In 10000 i) : (cI i).weight ≤ 14 ∧ tame (cI i) = true := by
  obtain ⟨h0, h1⟩ := h
  constructor
  · simp only [PyData.weight]
    split
    · exact Nat.zero_le _
    · rename_i hne
      have hne : i ≠ 0 := by simpa using hne
      have := (Nat.log2_lt (n := i.natAbs) (k := 14) (by omega)).mpr (by omega)
      omega
  · simp only [tame, decide_eq_true_eq]
    omega
theorem wS {w : Wd} (h : SWd w) : (cS w).weight ≤ 8 ∧ tame (cS w) = true := by
  constructor
  · simp only [PyData.weight]
    exact h.1
  · simp only [tame, PyData.strOk]
    rw [Array.all_eq_true_iff_forall_mem]
    intro c hc
    have := h.2 c (Array.mem_toList_iff.mpr hc)
    simpa using Nat.lt_trans this (by decide)
theorem wPW {p : PW} (h : SPW p) : (cPW p).weight ≤ 24 ∧ tame (cPW p) = true := by
  have a := wI h.1
  have b := wS h.2
  constructor
  · show (PyData.tuple [cI p.1, cS p.2]).weight ≤ 24
    simp only [PyData.weight, PyData.weightAll] at a b ⊢
    omega
  · show tame (PyData.tuple [cI p.1, cS p.2]) = true
    rw [tame, tameAll_iff]
    intro x hx
    simp only [List.mem_cons, List.not_mem_nil, or_false] at hx
    rcases hx with rfl | rfl
    · exact a.2
    · exact b.2
theorem wEW {e : EW} (h : SEW e) : (cEW e).weight ≤ 48 ∧ tame (cEW e) = true := by
  have a := wI h.1
  have b := wS h.2.1
  have c := wS h.2.2.1
  have d := wI h.2.2.2
  constructor
  · show (PyData.tuple [cI e.1, cS e.2.1, cS e.2.2.1, cI e.2.2.2]).weight ≤ 48
    have a1 := a.1
    have b1 := b.1
    have c1 := c.1
    have d1 := d.1
    rw [PyData.weight, PyData.weightAll, PyData.weightAll, PyData.weightAll, PyData.weightAll, PyData.weightAll]
    omega
  · show tame (PyData.tuple [cI e.1, cS e.2.1, cS e.2.2.1, cI e.2.2.2]) = true
    rw [tame, tameAll_iff]
    intro x hx
    simp only [List.mem_cons, List.not_mem_nil, or_false] at hx
    rcases hx with rfl | rfl | rfl | rfl
    · exact a.2
    · exact b.2
    · exact c.2
    · exact d.2
theorem weight_map {α : Type} {c : α → PyData} {k : Nat} : ∀ l : List α, (∀ x ∈ l, (c x).weight ≤ k) → PyData.weightAll (l.map c) ≤ l.length * (k + 1)
  | [], _ => by rw [List.map_nil, PyData.weightAll]; exact Nat.zero_le _
  | x :: l, h => by
    rw [List.map_cons, PyData.weightAll, List.length_cons, Nat.succ_mul]
    have := h x (List.mem_cons_self ..)
    have := weight_map l fun y hy => h y (List.mem_cons_of_mem _ hy)
    omega
theorem repr_mach {m : Mach} (h0 : In 10000 m.1) (h1 : ∀ p ∈ m.2.1, SPW p) (h2 : ∀ e ∈ m.2.2.1, SEW e) (h3 : ∀ p ∈ m.2.2.2, SPW p) (l1 : m.2.1.length ≤ 500) (l2 : m.2.2.1.length ≤ 500) (l3 : m.2.2.2.length ≤ 500) : ∃ w, reprW (cMach m) = some w := by
  have w0 := wI h0
  have w1 := weight_map m.2.1 fun p hp => (wPW (h1 p hp)).1
  have w2 := weight_map m.2.2.1 fun p hp => (wEW (h2 p hp)).1
  have w3 := weight_map m.2.2.2 fun p hp => (wPW (h3 p hp)).1
  refine repr_tame ?_ ?_ ?_
  · show tame (PyData.tuple [cI m.1, .tuple (m.2.1.map cPW), .tuple (m.2.2.1.map cEW), .tuple (m.2.2.2.map cPW)]) = true
    rw [tame, tameAll_iff]
    intro x hx
    simp only [List.mem_cons, List.not_mem_nil, or_false] at hx
    rcases hx with rfl | rfl | rfl | rfl
    · exact w0.2
    · rw [tame, tameAll_iff]; intro x hx; obtain ⟨p, hp, rfl⟩ := List.mem_map.mp hx; exact (wPW (h1 p hp)).2
    · rw [tame, tameAll_iff]; intro x hx; obtain ⟨p, hp, rfl⟩ := List.mem_map.mp hx; exact (wEW (h2 p hp)).2
    · rw [tame, tameAll_iff]; intro x hx; obtain ⟨p, hp, rfl⟩ := List.mem_map.mp hx; exact (wPW (h3 p hp)).2
  · show (PyData.tuple [cI m.1, .tuple (m.2.1.map cPW), .tuple (m.2.2.1.map cEW), .tuple (m.2.2.2.map cPW)]).weight ≤ _
    rw [PyData.weight, PyData.weightAll, PyData.weightAll, PyData.weightAll, PyData.weightAll, PyData.weightAll, PyData.weight, PyData.weight, PyData.weight]
    have w01 := w0.1
    omega
  · show (PyData.tuple [cI m.1, .tuple (m.2.1.map cPW), .tuple (m.2.2.1.map cEW), .tuple (m.2.2.2.map cPW)]).depth ≤ 64
    have d1 := depthAll_map flat_PW m.2.1
    have d2 := depthAll_map flat_EW m.2.2.1
    have d3 := depthAll_map flat_PW m.2.2.2
    simp only [PyData.depth, PyData.depthAll] at d1 d2 d3 ⊢
    omega
theorem repr_int {i : Int} (h : In 10000 i) : ∃ w, reprW (cI i) = some w :=
  repr_tame (wI h).2 (Nat.le_trans (wI h).1 (by decide)) (by simp [PyData.depth])
theorem repr_bool (b : Bool) : ∃ w, reprW (cB b) = some w := repr_tame rfl (by simp [PyData.weight]) (by simp [PyData.depth])
/-- what is due of small lines is shown -/
theorem due_small {L : List (List Wd)} (h : L.length ≤ 450) (hl : ∀ l ∈ L, ∀ w ∈ l, TokOk w) : ∃ w, reprW (dueD (finR (runT 1 L st0))) = some w := by
  have s0 : SSt st0 := ⟨(fun _ h => nomatch h), (fun _ h => nomatch h), (fun _ h => nomatch h), (fun _ h => nomatch h)⟩
  rcases run_small L 1 st0 s0 hl with ⟨st', e, a, b⟩ | ⟨j, e, a, b⟩
  · rw [e]
    have b : st'.ss.length + st'.es.length + st'.ns.length ≤ 0 + 0 + 0 + L.length := b
    show ∃ w, reprW (dueD (match st'.many with | none => Sum.inr 1 | some m => .inl (m, uniq cPW st'.ss, uniq cEW st'.es, uniq cPW st'.ns))) = some w
    cases hm : st'.many with
    | none => exact repr_int ⟨by decide, by decide⟩
    | some m =>
      obtain ⟨_, u1, u2⟩ := uniq_spec flat_PW.inj st'.ss
      obtain ⟨_, v1, v2⟩ := uniq_spec flat_EW.inj st'.es
      obtain ⟨_, x1, x2⟩ := uniq_spec flat_PW.inj st'.ns
      exact repr_mach (a.many m hm) (fun p hp => a.ss p ((u1 p).mp hp)) (fun p hp => a.es p ((v1 p).mp hp)) (fun p hp => a.ns p ((x1 p).mp hp)) (by show (uniq cPW st'.ss).length ≤ 500; omega) (by show (uniq cEW st'.es).length ≤ 500; omega) (by show (uniq cPW st'.ns).length ≤ 500; omega)
  · rw [e]
    exact repr_int ⟨by omega, by omega⟩
theorem repr_ok {m : Mach} (hm : PartsOk m) : ∃ w, reprW (cMach m) = some w := by
  have q0 := hm.m0
  have q1 := hm.m1
  have l1 := hm.ls
  have l2 := hm.le
  have l3 := hm.ln
  have lw : ∀ w : Wd, w.length ≤ 2 → Let w → SWd w := fun w h1 h2 => ⟨by omega, fun z hz => by have := h2 z hz; omega⟩
  have hp : ∀ p, PairOk m.1 p → SPW p := fun p h => ⟨⟨h.1.1, by have := h.1.2; omega⟩, lw _ h.2.1 h.2.2⟩
  refine repr_mach ⟨q0, by omega⟩ (fun p h => hp p (hm.st p h)) (fun e h => ?_) (fun p h => hp p (hm.en p h)) (by omega) (by omega) (by omega)
  obtain ⟨a, ⟨z, hz, z1, z2⟩, ⟨c, d⟩, b⟩ := hm.ed e h
  refine ⟨⟨a.1, by have := a.2; omega⟩, ?_, lw _ c d, ⟨b.1, by have := b.2; omega⟩⟩
  rw [hz]
  exact ⟨by show 1 ≤ 8; decide, fun y hy => by rw [List.mem_singleton.mp hy]; omega⟩
end K44
end

section
set_option Elab.async false
set_option linter.all false
set_option maxRecDepth 100000
set_option maxHeartbeats 4000000
/-! k44, plain: the law. -/
namespace K44
open PySem L2 Q TL
theorem rep_flat (k : Nat) : (List.replicate k ([([] : List Wd)] : List (List Wd))).flatten = List.replicate k [] := by
  induction k with
  | zero => rfl
  | succ k ih => rw [List.replicate_succ, List.flatten_cons, ih]; rfl
theorem txt_repr {m : Mach} (hm : PartsOk m) : ∃ w, reprW (cS (txt m)) = some w := by
  have ok := linesP_ok hm
  have hl := txt_len hm
  have hz : ∀ z ∈ txt m, z < 128 := by
    intro z hz
    unfold txt at hz
    rw [joinL_nil] at hz
    obtain ⟨l, hl, hz⟩ := List.mem_flatten.mp hz
    obtain ⟨x, hx, rfl⟩ := List.mem_map.mp hl
    rcases List.mem_append.mp (show z ∈ TL.joinL [32] x ++ [10] from hz) with hz | hz
    · have key : ∀ ts : List Wd, (∀ w ∈ ts, TokOk w) → z ∈ TL.joinL [32] ts → z < 128 := by
        intro ts
        induction ts with
        | nil => intro _ h; cases h
        | cons w r ih =>
          intro h hm
          cases r with
          | nil => exact ((h w (List.mem_cons_self ..)).2.2 z hm).2.2
          | cons y r =>
            rcases List.mem_append.mp (show z ∈ w ++ ([32] ++ TL.joinL [32] (y :: r)) from hm) with hm | hm
            · exact ((h w (List.mem_cons_self ..)).2.2 z hm).2.2
            rcases List.mem_cons.mp hm with hm | hm
            · omega
            · exact ih (fun y hy => h y (List.mem_cons_of_mem _ hy)) hm
      exact key x (ok.2 x hx).2 hz
    · rw [List.mem_singleton.mp hz]; decide
  refine repr_tame ?_ ?_ (by simp [PyData.depth])
  · simp only [tame, PyData.strOk]
    rw [Array.all_eq_true_iff_forall_mem]
    intro c hc
    have := hz c (Array.mem_toList_iff.mpr hc)
    simpa using Nat.lt_trans this (by decide)
  · simp only [PyData.weight]
    exact Nat.le_trans hl (by decide)
theorem lines_mono {n n' k k' : Nat} {ls : List (List Wd)} (h : LinesOk n k ls) (hn : n ≤ n') (hk : k ≤ k') : LinesOk n' k' ls := ⟨Nat.le_trans h.1 hn, fun l hl => lin_mono (h.2 l hl) hk⟩
theorem turn_ok {s : (List (List Wd)) × Wd × CS} {k : Nat} (hk : k ≤ 12) (hs : LinesOk 400 k s.1 ∧ Ok s.2.2) (hk2 : 2 ≤ k) :
    wp ((cnd (!s.1.isEmpty) ( some s.1) ( some ([([([115, 116, 97, 116, 101, 115] : Wd), ([50] : Wd)] : List Wd)] : List (List Wd)))).bind fun (y51 : (List (List Wd))) => (m_law_broken s.2.2 y51).bind fun (r52 : (List (List Wd)) × CS) => (m_law_text r52.2 r52.1).bind fun (r53 : Wd × CS) => (m_law_due r53.1).bind fun (r54 : PyData) => (m_read r53.1).bind fun (r55 : PyData ⊕ Int) => lt (tryJ (fun y => y) r55 ((fun _ => PyData.none) ()) none) fun j56 => (cnd (j56.2.isNone) ( some j56.1) ( some ((cO cI) j56.2))).bind fun (y57 : PyData) => (reprW (y57)).bind fun (x58 : Wd) => (reprW (r54)).bind fun (x59 : Wd) => cnd ((!decide (x58 = x59) || PyData.eqv (cB (j56.2.isNone)) (cB (isaInt (r54))))) ( some (.rt false)) ( some (.nx (r52.1, r53.1, r53.2))) : Option (Ctl ((List (List Wd)) × Wd × CS) Bool))
      fun | .nx t => LinesOk 400 (k + 1) t.1 ∧ Ok t.2.2 | .bk _ => False | .rt _ => False := by
  have z : (1000000 : Nat) ≤ sizeLine := by decide
  refine wp_bind (R := fun y => y ≠ [] ∧ LinesOk 400 k y) (wp_cnd (fun h => ⟨_, rfl, fun e => (by rw [e] at h; cases h), hs.1⟩) fun _ => ⟨_, rfl, by simp, by show 1 ≤ 400; decide, fun l hl => ?_⟩) fun y hy => ?_
  · rw [List.mem_singleton.mp hl]
    refine ⟨hk2, fun w hw => ?_⟩
    rcases List.mem_cons.mp hw with rfl | hw
    · exact tok_states
    · rw [List.mem_singleton.mp hw]; exact ⟨by decide, by decide, by decide⟩
  refine wp_bind (broken_ok hs.2 hy.1 (Nat.le_refl _) (by omega) hy.2) fun r hr => wp_bind (lawtext_ok hr.2 (by omega) hr.1) fun t ht => ?_
  obtain ⟨⟨e, he, et⟩, tl, to⟩ := ht
  have htl : t.1.length + 2 ≤ sizeLine := by omega
  refine wp_eq (due_eq t.1 htl) (wp_eq (read_eq t.1 htl) ?_)
  have hds : ∃ w, reprW (dueD (finR (runT 1 (toks t.1) st0))) = some w := by
    rw [et]
    refine due_small ?_ fun l hl => ?_
    · rw [List.length_append, List.length_replicate]
      have := hr.1.1
      omega
    · rcases List.mem_append.mp hl with hl | hl
      · exact (hr.1.2 l hl).2
      · rw [(List.mem_replicate.mp hl).2]; exact fun _ h => nomatch h
  obtain ⟨w, hw⟩ := hds
  have fin : wp (cnd ((!decide (w = w) || false)) ( some (.rt false)) ( some (.nx (r.1, t.1, t.2))) : Option (Ctl ((List (List Wd)) × Wd × CS) Bool)) (fun | .nx t => LinesOk 400 (k + 1) t.1 ∧ Ok t.2.2 | .bk _ => False | .rt _ => False) := by
    rw [decide_eq_true rfl]
    exact ⟨_, rfl, hr.1, to⟩
  cases hR : finR (runT 1 (toks t.1) st0) with
  | inl m =>
    rw [hR] at hw
    show wp ((reprW (cMach m)).bind fun (x58 : Wd) => (reprW (cMach m)).bind fun (x59 : Wd) => cnd ((!decide (x58 = x59) || PyData.eqv (cB true) (cB (isaInt (cMach m))))) ( some (Ctl.rt false : Ctl ((List (List Wd)) × Wd × CS) Bool)) ( some (.nx (r.1, t.1, t.2)))) _
    rw [show PyData.eqv (cB true) (cB (isaInt (cMach m))) = false by show PyData.eqv (cB true) (cB false) = false; simp [PyData.eqv]]
    have hw : reprW (cMach m) = some w := hw
    exact wp_eq hw (wp_eq hw fin)
  | inr j =>
    rw [hR] at hw
    show wp ((reprW (cI j)).bind fun (x58 : Wd) => (reprW (cI j)).bind fun (x59 : Wd) => cnd ((!decide (x58 = x59) || PyData.eqv (cB false) (cB (isaInt (cI j))))) ( some (Ctl.rt false : Ctl ((List (List Wd)) × Wd × CS) Bool)) ( some (.nx (r.1, t.1, t.2)))) _
    rw [show PyData.eqv (cB false) (cB (isaInt (cI j))) = false by show PyData.eqv (cB false) (cB true) = false; simp [PyData.eqv]]
    have hw : reprW (cI j) = some w := hw
    exact wp_eq hw (wp_eq hw fin)
theorem law_true (ns : List Int) (h : ns.length ≤ 63) : m_law ns = some true := by
  have z : (1000000 : Nat) ≤ sizeLine := by decide
  suffices wp (m_law ns) (· = true) by
    obtain ⟨b, e, rfl⟩ := this
    exact e
  unfold m_law
  refine wp_bind (start_ok ns h) fun c hc => wp_bind (take_ok hc (by decide) (by decide)) fun a ha => wp_lt (wp_bind (take_ok ha.2.2 (by decide) (by decide)) fun b hb => ?_)
  obtain ⟨x, ex, hx⟩ := atI_in (xs := [([120, 121] : Wd), ([97, 122] : Wd)]) hb.1 hb.2.1
  have hx' : 0 < x.length ∧ x.length < 1000 ∧ Let x := by
    simp only [List.mem_cons, List.not_mem_nil, or_false] at hx
    unfold Let
    rcases hx with rfl | rfl <;> decide
  refine wp_eq ex (wp_bind (drawn_ok hb.2.2 (by decide) (by decide) (by unfold Let; decide) hx'.1 hx'.2.1 hx'.2.2 (by omega) (by omega)) fun d hd => wp_bind (machine_ok hd.2.2 hd.1) fun m0 hm0 => wp_bind (take_ok hm0.2 (by decide) (by decide)) fun e he => ?_)
  refine wp_bind (R := fun j => MOk j.1 ∧ Ok j.2) (wp_cnd (fun _ => wp_bind (take_ok he.2.2 (by decide) (by decide)) fun f hf => wp_lt ⟨_, rfl, empty_ok hf.1 (by omega), hf.2.2⟩) fun _ => ⟨_, rfl, hm0.1, he.2.2⟩) fun j hj => ?_
  obtain ⟨m, c1⟩ := j
  obtain ⟨hm, hc1⟩ := hj
  replace hm : MOk m := hm
  replace hc1 : Ok c1 := hc1
  have hp := hm.toPartsOk
  have ok := linesP_ok hp
  refine wp_eq (lines_eq hp) (wp_eq (text_eq hp) (wp_gd (Nat.le_trans (rows_sum ok) (by decide)) (wp_lt (wp_eq (show_eq hp) ?_))))
  obtain ⟨w1, hw1⟩ := txt_repr hp
  obtain ⟨w2, hw2⟩ := repr_ok hp
  have hw1 : reprW (cS (TL.joinL [] ((linesP m).map rowN))) = some w1 := hw1
  refine wp_eq hw1 (wp_eq hw1 ?_)
  have e1 : okX (m_read (TL.joinL [] ((linesP m).map rowN))) = some (cMach m) := by
    rw [show TL.joinL [] ((linesP m).map rowN) = txt m from rfl, read_txt hm]
    rfl
  refine wp_eq (b := false) ?_ ?_
  · rw [decide_eq_true rfl]
    show ((okX _).bind _) = _
    dsimp only
    rw [e1, bnd_some, hw2, bnd_some, bnd_some, decide_eq_true rfl]
    rfl
  refine wp_cnd (fun h => by cases h) fun _ => ?_
  have lr : (rowsP m).length ≤ 120 := by
    have := ok.1
    rw [linesP_cons, List.length_cons] at this
    omega
  have okr : ∀ l ∈ rowsP m, LinOk 5 l := fun l hl => ok.2 l (by rw [linesP_cons]; exact List.mem_cons_of_mem _ hl)
  have ec : cut (linesP m) (some 1) none = rowsP m := cut1 _ _
  have eh : cut (linesP m) none (some 1) = [[wStates, strI m.1]] := cut_to (linesP m) 1
  rw [ec, eh]
  refine wp_bind (take_ok hc1 (by decide) (by decide)) fun f hf => ?_
  have lc := cut_len (rowsP m) none (some f.1)
  obtain ⟨fn, hfn⟩ := Int.eq_ofNat_of_zero_le hf.1
  have mc : ∀ l ∈ cut (rowsP m) none (some f.1), l ∈ rowsP m := by
    rw [hfn]
    intro l hl
    rw [cut_to] at hl
    exact List.mem_of_mem_take hl
  refine wp_gd (by omega) (wp_bind (take_ok hf.2.2 (by decide) (by decide)) fun g hg => ?_)
  have lg : g.1.toNat ≤ 2 := by omega
  refine wp_gd ⟨by omega, by omega, by show 1 * _ ≤ _; omega⟩ ?_
  rw [rep_flat]
  refine wp_gd (by rw [List.length_append, List.length_replicate]; omega) (wp_bind (shuffledW_ok hg.2.2 (by rw [List.length_append, List.length_append, List.length_replicate]; omega)) fun s hs => ?_)
  have ls := hs.1.length_eq
  rw [List.length_append, List.length_append, List.length_replicate] at ls
  have ms : ∀ x, x ∈ s.1 ↔ (x ∈ rowsP m ∨ x ∈ cut (rowsP m) none (some f.1)) ∨ x ∈ List.replicate g.1.toNat [] := fun x => by
    rw [hs.1.mem_iff, List.mem_append, List.mem_append]
  refine wp_gd (by show 1 + _ ≤ _; omega) (wp_lt (wp_bind (take_ok hs.2 (by decide) (by decide)) fun u hu => ?_))
  have lu : u.1.toNat ≤ 1 := by omega
  refine wp_gd ⟨by omega, by omega, by show 1 * _ ≤ _; omega⟩ ?_
  rw [rep_flat]
  refine wp_gd (by rw [List.length_replicate, List.length_append]; show _ + (1 + _) ≤ _; omega) (wp_lt ?_)
  have hmix : LinesOk 400 5 (List.replicate u.1.toNat [] ++ ([[wStates, strI m.1]] ++ s.1)) := by
    refine ⟨by rw [List.length_append, List.length_append, List.length_replicate]; show _ + (1 + _) ≤ 400; omega, fun l hl => ?_⟩
    have nilok : LinOk 5 [] := ⟨Nat.zero_le _, fun _ h => nomatch h⟩
    rcases List.mem_append.mp hl with hl | hl
    · rw [(List.mem_replicate.mp hl).2]; exact nilok
    rcases List.mem_append.mp hl with hl | hl
    · rw [List.mem_singleton.mp hl]; exact ok.2 _ (by rw [linesP_cons]; exact List.mem_cons_self ..)
    rcases (ms l).mp hl with (hl | hl) | hl
    · exact okr l hl
    · exact okr l (mc l hl)
    · rw [(List.mem_replicate.mp hl).2]; exact nilok
  refine wp_bind (lawtext_ok hu.2.2 (by decide) hmix) fun t ht => ?_
  obtain ⟨⟨k, hk, et⟩, tl, to⟩ := ht
  have e2 : okX (m_read t.1) = some (cMach m) := by
    rw [read_eq t.1 (by omega), et]
    have := run_mach hm u.1.toNat (X := s.1 ++ List.replicate k []) (fun x hx => by
      rcases List.mem_append.mp hx with hx | hx
      · rcases (ms x).mp hx with (hl | hl) | hl
        · exact .inr hl
        · exact .inr (mc x hl)
        · exact .inl (List.mem_replicate.mp hl).2
      · exact .inl (List.mem_replicate.mp hx).2) fun x hx => List.mem_append.mpr (.inl ((ms x).mpr (.inl (.inl hx))))
    rw [show (List.replicate u.1.toNat [] ++ ([[wStates, strI m.1]] ++ s.1)) ++ List.replicate k [] = List.replicate u.1.toNat [] ++ [wStates, strI m.1] :: (s.1 ++ List.replicate k []) by simp, this]
    rfl
  refine wp_eq e2 (wp_eq hw2 (wp_eq hw2 ?_))
  rw [decide_eq_true rfl]
  refine wp_cnd (fun h => by cases h) fun _ => ?_
  refine wp_gd ⟨by have : (6 : Nat) ≤ sizeLine := by omega
                   omega, by decide⟩ ?_
  refine wp_bind (wp_forC (I := fun r (s : (List (List Wd)) × Wd × CS) => r.length ≤ 6 ∧ LinesOk 400 (11 - r.length) s.1 ∧ Ok s.2.2) (E := fun _ => False) (rng 0 6) _ ⟨by decide, by rw [show 11 - (rng 0 6).length = 5 from rfl]; exact hmix, to⟩ fun x r s hx hs => ?_) fun q hq => ?_
  · rw [List.length_cons] at hs
    refine wp_mono (turn_ok (k := 11 - (r.length + 1)) (by omega) hs.2 (by omega)) fun q hq => ?_
    cases q with
    | nx t => exact ⟨by omega, lines_mono hq.1 (Nat.le_refl _) (by omega), hq.2⟩
    | bk _ => exact hq
    | rt _ => exact hq
  cases q with
  | bk _ => exact hq.elim
  | rt _ => exact hq.elim
  | nx s =>
    refine wp_gd ⟨by have : (6 : Nat) ≤ sizeLine := by omega
                     omega, by decide⟩ ?_
    refine wp_bind (wp_forC (I := fun _ (s : CS) => Ok s) (E := fun _ => False) (rng 0 6) _ hq.2.2 fun x r s hx hs => ?_) fun q hq => ?_
    · refine wp_bind (bent_ok hs hp) fun v hv => ?_
      obtain ⟨b, b1, b2⟩ := machine_same v.1 hv.1
      obtain ⟨w, hw⟩ := repr_bool b
      refine wp_eq b1 (wp_eq hw (wp_eq b2 (wp_eq hw ?_)))
      rw [decide_eq_true rfl]
      show wp (some (Ctl.nx v.2 : Ctl CS Bool)) _
      exact wp_some (show Ok v.2 from hv.2)
    cases q with
    | bk _ => exact hq.elim
    | rt _ => exact hq.elim
    | nx s =>
      refine wp_eq (machine_yes hm) ?_
      have : reprW (cB true) = some [84, 114, 117, 101] := by
        obtain ⟨w, hw⟩ := repr_bool true
        rw [hw]
        unfold reprW at hw
        split at hw
        · have := Option.some.inj hw
          rw [← this]
          rfl
        · cases hw
      exact wp_eq this ⟨_, rfl, by decide⟩
end K44
end
theorem PySem.Challenge.cw_afterthought_k44_texts_and_forms_holds : PySem.Challenge.rw_afterthought_k44_texts_and_forms.Holds := by
  exact K44_end K44.law_true
