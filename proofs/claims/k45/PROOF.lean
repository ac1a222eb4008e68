import PyProof.Rows.All
import Wide.All
import OpenK.AllK
import Wide.FinOn
import PySem.Challenge.RW_againandagain_k45_whole_pieces_of_one_fa
import HandS.ForMost
import HandS.Exc
import HandS.TryOnly
import HandS.ExcOwn
import HandS.WordsExc
import HandS.IsInst
import HandS.Wide
import HandS.TupAny
import HandS.Flow
import HandS.Lambda
import HandS.TupLe
import HandS.SortInts
import HandS.Text
import HandS.Dict
import HandS.Call
import HandS.Property
import HandS.Conv
import KE.KEqDict
import HandS.Deep
import HandS.TupSets
import HandS.TupLen
import HandS.DictTup
import KE.KDictPairs
import KE.KDictList
import HandS.WordsDict
import HandS.CallSlots
import HandS.TupMul
import HandS.Star
import HandS.Zip
import KE.DataMinMax
import KE.KTupSum
import HandS.Walk
import KE.GoesEnum
import PyProof.ZipIter
import KE.GoesMore
import PyProof.ReprRoads
import HandS.Style
import HandS.RaiseMore
import HandS.SetFor
import KE.KRevSl
import HandS.Strs
import HandS.ExcIs
import KE.KExcIs
import HandS.Ends
import HandS.Words
import KE.KExcSuper
import KE.KSuper
set_option Elab.async false
set_option linter.all false
set_option maxRecDepth 100000
set_option maxHeartbeats 8000000
/-! AA1: data, abstract memory, relations. -/
namespace AA
open PySem PySem.Spec L2
open PyProof.Rows hiding St

/-- a datum: tuples and read-only lists by their items, mutable things by a number -/
inductive D where
  | non | bl (b : Bool) | int (i : Int) | str (x : Str)
  | tup (xs : List D) | lst (xs : List D) | ref (n : Nat) | exc (c : Nat) (v : D) | dic0 | dts (ks : List (List Int))
inductive MO where
  | lst (xs : List D) | dct (kvs : List (Key × D)) | ins (c : Nat) (fs : List (Str × D))
noncomputable abbrev Mem := List MO

/-- an exception object of the class cls, its dict at dx, that stands at a -/
noncomputable def ExcO (cls : Value) (dx a : Addr) : HO := .ext fun h => ∃ (oe : Obj) (vs : Array Value), h.get? a = some oe ∧ Zc cls (some dx) oe ∧ oe.data = .fields vs

/-- the classes' addresses; the tables of code objects that are tracked -/
structure Cad where
  at_ : Nat → Addr
  tabs : List (Addr × Str)
noncomputable instance : CoeFun Cad (fun _ => Nat → Addr) := ⟨Cad.at_⟩
structure Gm where
  K : PySem.W.Frag
  cad : Cad

/-- a tracked thing that is not among the numbered ones -/
noncomputable def Own (ρ : List Addr) (H : Hp) (α : List Addr) (a : Addr) (o : HO) : Prop := a ∉ α ∧ a ∉ ρ ∧ Rd H a o
noncomputable def TupAt (K : PySem.W.Frag) (ρ : List Addr) (H : Hp) (α : List Addr) (a : Addr) (vs : List V) : Prop :=
  Own ρ H α a (.tup vs) ∨ ∃ (o : Obj) (its : Array Value) (n : Nat), K.lookup a = some o ∧ o.cls = .type "tuple" ∧ o.data = .seq its n ∧ its.size ≤ sizeLine ∧ Vals vs its.toList
noncomputable def LstAt (K : PySem.W.Frag) (ρ : List Addr) (H : Hp) (α : List Addr) (a : Addr) (vs : List V) : Prop :=
  Own ρ H α a (.lst vs) ∨ ∃ (o : Obj) (its : Array Value) (n : Nat), K.lookup a = some o ∧ o.cls = .type "list" ∧ o.dict = none ∧ o.data = .seq its n ∧ its.size ≤ sizeLine ∧ Vals vs its.toList
/-- the hash of a tuple of whole numbers -/
noncomputable def tH (ks : List Int) : Int := reduceHash (Builtin.Tuple.tupleHashOf (ks.map hashInt))
noncomputable def dtE (x : List Int × Addr × Value) : DictEntry := ⟨tH x.1, .ref x.2.1, x.2.2⟩
/-- a dict whose keys are tuples of whole numbers: its own entries -/
structure DtT (h : Heap) (a : Addr) (L : List (List Int × Addr × Value)) : Prop where
  lo : (a == sysModules) = false
  sz : L.length ≤ sizeLine
  ex : ∃ (o : Obj) (es : Array DictEntry) (ep : Nat), h.get? a = some o ∧ o.ExactDict ∧ o.data = .dict es ep ∧ es.toList = L.map dtE
  nd : (L.map (·.1)).Nodup
noncomputable def DtO (a : Addr) (L : List (List Int × Addr × Value)) : HO := .ext fun h => DtT h a L
mutual
noncomputable def RD (G : Gm) (ρ : List Addr) (H : Hp) (α : List Addr) : D → V → Prop
  | .non, v => v = .non
  | .bl b, v => v = .bl b
  | .int i, v => v = .int i
  | .str x, v => v = .str x
  | .tup xs, v => ∃ a vs, v = .ref a ∧ TupAt G.K ρ H α a vs ∧ RDs G ρ H α xs vs
  | .lst xs, v => ∃ a vs, v = .ref a ∧ LstAt G.K ρ H α a vs ∧ RDs G ρ H α xs vs
  | .ref n, v => ∃ a, v = .ref a ∧ α[n]? = some a
  | .dic0, v => ∃ a, v = .ref a ∧ Own ρ H α a (.dK [])
  | .dts ks, v => ∃ a L, v = .ref a ∧ Own ρ H α a (DtO a L) ∧ L.map (·.1) = ks ∧ ∀ p ∈ L, TupAt G.K ρ H α p.2.1 (p.1.map V.int)
  | .exc c d, v => ∃ a dx dv, v = .ref a ∧ a ∉ α ∧ a ∉ ρ ∧ H a = some (ExcO (.ref (G.cad c)) dx a) ∧ dx ∉ α ∧ dx ∉ ρ ∧ H dx = some (.xd [("value", dv)]) ∧ RD G ρ H α d dv
noncomputable def RDs (G : Gm) (ρ : List Addr) (H : Hp) (α : List Addr) : List D → List V → Prop
  | [], vs => vs = []
  | d :: ds, vs => ∃ v vs', vs = v :: vs' ∧ RD G ρ H α d v ∧ RDs G ρ H α ds vs'
end

noncomputable def notTbl (o : HO) : Prop := ∀ ps, o ≠ .tbl ps
/-- what comes behind: all but the numbered things stands, further numbers are new -/
noncomputable def Fre (H : Hp) (b : Addr) : Prop := H b = none ∨ ∃ ps, H b = some (.tbl ps)
theorem Fre.no {H : Hp} {b : Addr} {o : HO} (f : Fre H b) (h : H b = some o) (t : notTbl o) : False := by
  rcases f with f | ⟨ps, f⟩
  · rw [h] at f; cases f
  · rw [h] at f; cases f; exact t _ rfl
structure Nx (ρ : List Addr) (α : List Addr) (H : Hp) (α' : List Addr) (H' : Hp) : Prop where
  pre : ∃ β, α' = α ++ β ∧ ∀ b ∈ β, Fre H b
  keep : ∀ a o, H a = some o → notTbl o → a ∉ α → a ∉ ρ → H' a = some o
  stay : ∀ a, Fre H' a → Fre H a
theorem Nx.refl (ρ α : List Addr) (H : Hp) : Nx ρ α H α H := ⟨⟨[], by simp⟩, fun _ _ h _ _ _ => h, fun _ h => h⟩
theorem Nx.notin {ρ α α' : List Addr} {H H' : Hp} (n : Nx ρ α H α' H') {a : Addr} {o : HO} (h : H a = some o) (ha : a ∉ α) (t : notTbl o := by intro ps z; cases z) : a ∉ α' := by
  obtain ⟨β, rfl, hb⟩ := n.pre
  intro z
  rcases List.mem_append.mp z with z | z
  · exact ha z
  · exact (hb a z).no h t
theorem Nx.trans {ρ α α1 α2 : List Addr} {H H1 H2 : Hp} (m : Nx ρ α H α1 H1) (n : Nx ρ α1 H1 α2 H2) : Nx ρ α H α2 H2 := by
  obtain ⟨β, rfl, hb⟩ := id m.pre
  obtain ⟨γ, rfl, hc⟩ := id n.pre
  refine ⟨⟨β ++ γ, by rw [List.append_assoc], fun b hb' => ?_⟩, fun a o h t ha hr => n.keep a o (m.keep a o h t ha hr) t (m.notin h ha t) hr, fun a h => m.stay a (n.stay a h)⟩
  rcases List.mem_append.mp hb' with z | z
  · exact hb b z
  · exact m.stay b (hc b z)
theorem Nx.new {ρ α : List Addr} {H : Hp} {p : Addr} {o : HO} (h : H p = none) : Nx ρ α H α (upd H p o) :=
  ⟨⟨[], by simp⟩, fun a u e _ _ _ => by rw [upd_ne (ne_of_none e h)]; exact e, fun a e => by
    by_cases z : a = p
    · exact .inl (by rw [z]; exact h)
    · unfold Fre at e ⊢; rwa [upd_ne z] at e⟩
theorem Nx.num {ρ α : List Addr} {H : Hp} {p : Addr} {o : HO} (h : H p = none) : Nx ρ α H (α ++ [p]) (upd H p o) :=
  ⟨⟨[p], rfl, fun b hb => by rw [List.mem_singleton.mp hb]; exact .inl h⟩, (Nx.new (ρ := ρ) (α := α) h).keep, (Nx.new (ρ := ρ) (α := α) h).stay⟩
theorem Nx.write {ρ α : List Addr} {H : Hp} {p : Addr} {o u : HO} (h : H p = some u) (hp : p ∈ α) (t : notTbl o := by intro ps z; cases z) : Nx ρ α H α (upd H p o) :=
  ⟨⟨[], by simp⟩, fun a v e _ ha _ => by rw [upd_ne (fun z => ha (by rw [z]; exact hp))]; exact e, fun a e => by
    by_cases z : a = p
    · rw [z] at e; exact (e.no upd_same t).elim
    · unfold Fre at e ⊢; rwa [upd_ne z] at e⟩
theorem Own.nx {χ ρ α α' : List Addr} {H H' : Hp} {a : Addr} {o : HO} (w : Own ρ H α a o) (n : Nx χ α H α' H') (t : notTbl o) (hs : ∀ b ∈ χ, b ∈ ρ := by intro b hb; cases hb) : Own ρ H' α' a o := by
  obtain ⟨ha, hr, h | ⟨u, h⟩⟩ := w
  · exact ⟨n.notin h ha t, hr, .inl (n.keep a o h t ha fun z => hr (hs _ z))⟩
  · exact ⟨n.notin h ha, hr, .inr ⟨u, n.keep a _ h (fun ps z => by cases z) ha fun z => hr (hs _ z)⟩⟩
theorem TupAt.nx {K : PySem.W.Frag} {χ ρ α α' : List Addr} {H H' : Hp} {a : Addr} {vs : List V} (w : TupAt K ρ H α a vs) (n : Nx χ α H α' H') (hs : ∀ b ∈ χ, b ∈ ρ := by intro b hb; cases hb) : TupAt K ρ H' α' a vs := by
  rcases w with w | w
  · exact .inl (w.nx n (fun ps z => by cases z) hs)
  · exact .inr w
theorem LstAt.nx {K : PySem.W.Frag} {χ ρ α α' : List Addr} {H H' : Hp} {a : Addr} {vs : List V} (w : LstAt K ρ H α a vs) (n : Nx χ α H α' H') (hs : ∀ b ∈ χ, b ∈ ρ := by intro b hb; cases hb) : LstAt K ρ H' α' a vs := by
  rcases w with w | w
  · exact .inl (w.nx n (fun ps z => by cases z) hs)
  · exact .inr w
theorem num_nx {χ α α' : List Addr} {H H' : Hp} (n : Nx χ α H α' H') {k : Nat} {a : Addr} (h : α[k]? = some a) : α'[k]? = some a := by
  obtain ⟨β, rfl, _⟩ := n.pre
  rw [List.getElem?_append_left (List.getElem?_eq_some_iff.mp h).1]; exact h
mutual
theorem RD.nx' {G : Gm} {χ ρ α α' : List Addr} {H H' : Hp} (n : Nx χ α H α' H') (hs : ∀ b ∈ χ, b ∈ ρ) : ∀ (d : D) (v : V), RD G ρ H α d v → RD G ρ H' α' d v
  | .non, v, h => h
  | .bl _, v, h => h
  | .int _, v, h => h
  | .str _, v, h => h
  | .tup xs, v, h => by
    obtain ⟨a, vs, e, t, r⟩ := h
    exact ⟨a, vs, e, t.nx n hs, RDs.nx' n hs xs vs r⟩
  | .lst xs, v, h => by
    obtain ⟨a, vs, e, t, r⟩ := h
    exact ⟨a, vs, e, t.nx n hs, RDs.nx' n hs xs vs r⟩
  | .ref k, v, h => by
    obtain ⟨a, e, t⟩ := h
    exact ⟨a, e, num_nx n t⟩
  | .dic0, v, h => by
    obtain ⟨a, e, t⟩ := h
    exact ⟨a, e, t.nx n (fun ps z => by cases z) hs⟩
  | .dts ks, v, h => by
    obtain ⟨a, L, e, t, h1, h2⟩ := h
    exact ⟨a, L, e, t.nx n (fun ps z => by unfold DtO at z; cases z) hs, h1, fun p hp => (h2 p hp).nx n hs⟩
  | .exc c d, v, h => by
    obtain ⟨a, dx, dv, e, na, ra, ha, nd, rd, hd, r⟩ := h
    exact ⟨a, dx, dv, e, n.notin ha na, ra, n.keep _ _ ha (fun ps z => by cases z) na (fun z => ra (hs _ z)), n.notin hd nd, rd, n.keep _ _ hd (fun ps z => by cases z) nd (fun z => rd (hs _ z)), RD.nx' n hs d dv r⟩
theorem RDs.nx' {G : Gm} {χ ρ α α' : List Addr} {H H' : Hp} (n : Nx χ α H α' H') (hs : ∀ b ∈ χ, b ∈ ρ) : ∀ (ds : List D) (vs : List V), RDs G ρ H α ds vs → RDs G ρ H' α' ds vs
  | [], vs, h => h
  | d :: ds, vs, h => by
    obtain ⟨v, vs', e, r, rs⟩ := h
    exact ⟨v, vs', e, RD.nx' n hs d v r, RDs.nx' n hs ds vs' rs⟩
end
theorem RD.nx {G : Gm} {χ ρ α α' : List Addr} {H H' : Hp} {d : D} {v : V} (r : RD G ρ H α d v) (n : Nx χ α H α' H') (hs : ∀ b ∈ χ, b ∈ ρ := by intro b hb; cases hb) : RD G ρ H' α' d v := RD.nx' n hs d v r
theorem RDs.nx {G : Gm} {χ ρ α α' : List Addr} {H H' : Hp} {d : List D} {v : List V} (r : RDs G ρ H α d v) (n : Nx χ α H α' H') (hs : ∀ b ∈ χ, b ∈ ρ := by intro b hb; cases hb) : RDs G ρ H' α' d v := RDs.nx' n hs d v r
theorem RDs.length {G : Gm} {H : Hp} {ρ α : List Addr} : ∀ {ds : List D} {vs : List V}, RDs G ρ H α ds vs → ds.length = vs.length
  | [], vs, h => by rw [show vs = [] from h]; rfl
  | d :: ds, vs, h => by
    obtain ⟨v, vs', e, r, rs⟩ := h
    rw [e, List.length_cons, List.length_cons, RDs.length rs]
theorem RDs.get {G : Gm} {H : Hp} {ρ α : List Addr} : ∀ {ds : List D} {vs : List V} {i : Nat} {d : D}, RDs G ρ H α ds vs → ds[i]? = some d → ∃ v, vs[i]? = some v ∧ RD G ρ H α d v
  | [], vs, i, d, h, e => by simp at e
  | d :: ds, vs, 0, d', h, e => by
    obtain ⟨v, vs', rfl, r, rs⟩ := h
    simp at e; subst e
    exact ⟨v, rfl, r⟩
  | d :: ds, vs, i + 1, d', h, e => by
    obtain ⟨v, vs', rfl, r, rs⟩ := h
    obtain ⟨u, h1, h2⟩ := RDs.get (i := i) rs (by simpa using e)
    exact ⟨u, by simpa using h1, h2⟩
theorem RDs.get' {G : Gm} {H : Hp} {ρ α : List Addr} {ds : List D} {vs : List V} {i : Nat} {v : V} (h : RDs G ρ H α ds vs) (e : vs[i]? = some v) : ∃ d, ds[i]? = some d ∧ RD G ρ H α d v := by
  have hl := h.length
  obtain ⟨hi, _⟩ := List.getElem?_eq_some_iff.mp e
  have hd : ds[i]? = some ds[i] := List.getElem?_eq_getElem (by omega)
  obtain ⟨u, h1, h2⟩ := h.get hd
  rw [e] at h1; cases h1
  exact ⟨_, hd, h2⟩
theorem RDs.nil {G : Gm} {H : Hp} {ρ α : List Addr} : RDs G ρ H α [] [] := rfl
theorem RDs.cons {G : Gm} {H : Hp} {ρ α : List Addr} {d : D} {v : V} {ds : List D} {vs : List V} (r : RD G ρ H α d v) (rs : RDs G ρ H α ds vs) : RDs G ρ H α (d :: ds) (v :: vs) := ⟨v, vs, rfl, r, rs⟩
theorem RDs.append {G : Gm} {H : Hp} {ρ α : List Addr} : ∀ {ds es : List D} {vs us : List V}, RDs G ρ H α ds vs → RDs G ρ H α es us → RDs G ρ H α (ds ++ es) (vs ++ us)
  | [], es, vs, us, h, k => by rw [show vs = [] from h]; exact k
  | d :: ds, es, vs, us, h, k => by
    obtain ⟨v, vs', rfl, r, rs⟩ := h
    exact .cons r (RDs.append rs k)
theorem RDs.set {G : Gm} {H : Hp} {ρ α : List Addr} {d : D} {v : V} (r : RD G ρ H α d v) : ∀ {ds : List D} {vs : List V} (i : Nat), RDs G ρ H α ds vs → RDs G ρ H α (ds.set i d) (vs.set i v)
  | [], vs, i, h => by rw [show vs = [] from h]; exact .nil
  | e :: ds, vs, 0, h => by
    obtain ⟨u, vs', rfl, _, rs⟩ := h
    exact .cons r rs
  | e :: ds, vs, i + 1, h => by
    obtain ⟨u, vs', rfl, r', rs⟩ := h
    exact .cons r' (RDs.set r i rs)
theorem RDs.take {G : Gm} {H : Hp} {ρ α : List Addr} : ∀ {ds : List D} {vs : List V} (n : Nat), RDs G ρ H α ds vs → RDs G ρ H α (ds.take n) (vs.take n)
  | _, _, 0, _ => by simp; exact RDs.nil
  | [], vs, n + 1, h => by rw [show vs = [] from h]; simp; exact RDs.nil
  | d :: ds, vs, n + 1, h => by
    obtain ⟨v, vs', rfl, r, rs⟩ := h
    exact .cons r (RDs.take n rs)
theorem RDs.drop {G : Gm} {H : Hp} {ρ α : List Addr} : ∀ {ds : List D} {vs : List V} (n : Nat), RDs G ρ H α ds vs → RDs G ρ H α (ds.drop n) (vs.drop n)
  | _, _, 0, h => by simpa using h
  | [], vs, n + 1, h => by rw [show vs = [] from h]; simp; exact RDs.nil
  | d :: ds, vs, n + 1, h => by
    obtain ⟨v, vs', rfl, r, rs⟩ := h
    simpa using RDs.drop n rs
theorem RDs.ints {G : Gm} {H : Hp} {ρ α : List Addr} : ∀ {ns : List Int} {vs : List V}, RDs G ρ H α (ns.map D.int) vs → vs = ns.map V.int
  | [], vs, h => h
  | n :: ns, vs, h => by
    obtain ⟨v, vs', rfl, r, rs⟩ := h
    have e : v = .int n := r
    rw [e, List.map_cons, RDs.ints rs]
theorem RDs.of_ints {G : Gm} {H : Hp} {ρ α : List Addr} : ∀ (ns : List Int), RDs G ρ H α (ns.map D.int) (ns.map V.int)
  | [] => rfl
  | n :: ns => ⟨_, _, rfl, rfl, RDs.of_ints ns⟩

/-! ### the abstract memory -/
noncomputable def RO (G : Gm) (ρ : List Addr) (H : Hp) (α : List Addr) (a : Addr) : MO → Prop
  | .lst ds => ∃ vs, H a = some (.lst vs) ∧ RDs G ρ H α ds vs
  | .dct kvs => ∃ kvs', H a = some (.dK kvs') ∧ kvs.map (·.1) = kvs'.map (·.1) ∧ RDs G ρ H α (kvs.map (·.2)) (kvs'.map (·.2))
  | .ins c fs => ∃ dx fs', H a = some (.ins (G.cad c) dx fs') ∧ fs.map (·.1) = fs'.map (·.1) ∧ RDs G ρ H α (fs.map (·.2)) (fs'.map (·.2))
theorem RO.num {G : Gm} {ρ : List Addr} {H : Hp} {α : List Addr} {a : Addr} {mo : MO} (r : RO G ρ H α a mo) : ∃ o, H a = some o ∧ notTbl o ∧ ∀ c q, o ≠ LamX.CodeO c q := by
  cases mo with
  | lst ds => obtain ⟨vs, e, q⟩ := r; exact ⟨_, e, fun ps z => (by cases z), fun c q z => (by unfold LamX.CodeO at z; cases z)⟩
  | dct kvs => obtain ⟨vs, e, q⟩ := r; exact ⟨_, e, fun ps z => (by cases z), fun c q z => (by unfold LamX.CodeO at z; cases z)⟩
  | ins c fs => obtain ⟨dx, vs, e, q⟩ := r; exact ⟨_, e, fun ps z => (by cases z), fun c q z => (by unfold LamX.CodeO at z; cases z)⟩
theorem tabs_new {T : List (Addr × Str)} {H : Hp} {p : Addr} {o : HO} (t : LamX.Tabs T H) (h : H p = none) : LamX.Tabs T (upd H p o) := t.ext fun b u e => by rw [upd_ne (ne_of_none e h)]; exact e
theorem tabs_at {T : List (Addr × Str)} {H : Hp} {p : Addr} {o u : HO} (t : LamX.Tabs T H) (h : H p = some u) (h1 : notTbl u) (h2 : ∀ c q, u ≠ LamX.CodeO c q) : LamX.Tabs T (upd H p o) := fun q hq => by
  obtain ⟨ps, e1, e2, e3⟩ := t q hq
  have n1 : q.1 ≠ p := fun z => by rw [z, h] at e1; cases e1; exact h1 _ rfl
  refine ⟨ps, by rw [upd_ne n1]; exact e1, e2, fun pos cv hc => ?_⟩
  obtain ⟨c, e4, e5⟩ := e3 pos cv hc
  have n2 : c ≠ p := fun z => by rw [z, h] at e5; exact h2 _ _ (Option.some.inj e5)
  exact ⟨c, e4, by rw [upd_ne n2]; exact e5⟩
structure RM (G : Gm) (ρ : List Addr) (H : Hp) (α : List Addr) (M : Mem) : Prop where
  len : α.length = M.length
  nd : α.Nodup
  rho : ∀ b ∈ ρ, ¬ Fre H b
  tab : LamX.Tabs G.cad.tabs H
  at_ : ∀ (n : Nat) a mo, α[n]? = some a → M[n]? = some mo → RO G ρ H α a mo
theorem RO.nx {G : Gm} {H H' : Hp} {χ ρ α α' : List Addr} {a : Addr} {mo : MO} (r : RO G ρ H α a mo) (n : Nx χ α H α' H') (h : H' a = H a) (hs : ∀ b ∈ χ, b ∈ ρ := by intro b hb; cases hb) : RO G ρ H' α' a mo := by
  cases mo with
  | lst ds => obtain ⟨vs, e, q⟩ := r; exact ⟨vs, h.trans e, q.nx n hs⟩
  | dct kvs => obtain ⟨vs, e, q1, q⟩ := r; exact ⟨vs, h.trans e, q1, q.nx n hs⟩
  | ins c fs => obtain ⟨dx, vs, e, q1, q⟩ := r; exact ⟨dx, vs, h.trans e, q1, q.nx n hs⟩
theorem RO.some {G : Gm} {H : Hp} {ρ α : List Addr} {a : Addr} {mo : MO} (r : RO G ρ H α a mo) : ∃ o, H a = some o := by
  cases mo with
  | lst ds => obtain ⟨vs, e, q⟩ := r; exact ⟨_, e⟩
  | dct kvs => obtain ⟨vs, e, q⟩ := r; exact ⟨_, e⟩
  | ins c fs => obtain ⟨dx, vs, e, q⟩ := r; exact ⟨_, e⟩
theorem RM.mem {G : Gm} {H : Hp} {ρ α : List Addr} {M : Mem} (r : RM G ρ H α M) {a : Addr} (ha : a ∈ α) : ∃ o, H a = some o := by
  obtain ⟨n, hn, e⟩ := List.getElem_of_mem ha
  have h1 : α[n]? = some a := by rw [List.getElem?_eq_getElem hn, e]
  have h2 : M[n]? = some (M[n]'(by rw [← r.len]; exact hn)) := List.getElem?_eq_getElem _
  exact (r.at_ n a _ h1 h2).some
/-- nothing numbered is touched -/
theorem RM.nx {G : Gm} {H H' : Hp} {ρ α : List Addr} {M : Mem} (r : RM G ρ H α M) (n : Nx [] α H α H') (h : ∀ a ∈ α, H' a = H a) (tb : LamX.Tabs G.cad.tabs H') : RM G ρ H' α M :=
  ⟨r.len, r.nd, fun b hb z => r.rho b hb (n.stay b z), tb, fun k a mo h1 h2 => (r.at_ k a mo h1 h2).nx n (h a (List.mem_of_getElem? h1))⟩
theorem RM.new {G : Gm} {H : Hp} {ρ α : List Addr} {M : Mem} {p : Addr} {o : HO} (r : RM G ρ H α M) (h : H p = none) : RM G ρ (upd H p o) α M :=
  r.nx (Nx.new h) (fun a ha => by
    obtain ⟨u, e⟩ := r.mem ha
    exact upd_ne (ne_of_none e h)) (tabs_new r.tab h)
/-- a new thing gets a number -/
theorem RM.num {G : Gm} {H : Hp} {ρ α : List Addr} {M : Mem} {p : Addr} {o : HO} {mo : MO} (r : RM G ρ H α M) (h : H p = none) (q : RO G ρ (upd H p o) (α ++ [p]) p mo) : RM G ρ (upd H p o) (α ++ [p]) (M ++ [mo]) := by
  have hp : p ∉ α := fun z => by obtain ⟨u, e⟩ := r.mem z; rw [h] at e; cases e
  refine ⟨by simp [r.len], ?_, fun b hb z => r.rho b hb ((Nx.num (ρ := []) (α := α) h).stay b z), tabs_new r.tab h, fun k a mo' h1 h2 => ?_⟩
  · exact List.nodup_append.mpr ⟨r.nd, by simp, fun a ha b hb z => hp (by rw [← List.mem_singleton.mp hb, ← z]; exact ha)⟩
  · by_cases hk : k < α.length
    · rw [List.getElem?_append_left hk] at h1
      rw [List.getElem?_append_left (by rw [← r.len]; exact hk)] at h2
      refine (r.at_ k a mo' h1 h2).nx (Nx.num (ρ := []) h) (upd_ne ?_)
      rintro rfl
      exact hp (List.mem_of_getElem? h1)
    · have hl := (List.getElem?_eq_some_iff.mp h1).1
      have e : k = α.length := by simp at hl; omega
      subst e
      rw [List.getElem?_append_right (Nat.le_refl _)] at h1
      rw [List.getElem?_append_right (by rw [r.len]; exact Nat.le_refl _)] at h2
      simp [r.len] at h1 h2
      subst h1 h2
      exact q
/-- a numbered thing is written -/
theorem RM.write {G : Gm} {H : Hp} {ρ α : List Addr} {M : Mem} {n : Nat} {p : Addr} {o : HO} {mo : MO} (r : RM G ρ H α M) (hp : α[n]? = some p) (q : RO G ρ (upd H p o) α p mo) : RM G ρ (upd H p o) α (M.set n mo) := by
  have hm := List.mem_of_getElem? hp
  have hl : n < M.length := by rw [← r.len]; exact (List.getElem?_eq_some_iff.mp hp).1
  obtain ⟨u, e, t1, t2⟩ := (r.at_ n p (M[n]'hl) hp (List.getElem?_eq_getElem hl)).num
  obtain ⟨u', e', t', _⟩ := q.num
  rw [upd_same] at e'; cases e'
  refine ⟨by simp [r.len], r.nd, fun b hb z => r.rho b hb ((Nx.write (ρ := []) (o := o) e hm t').stay b z), tabs_at r.tab e t1 t2, fun k a mo' h1 h2 => ?_⟩
  by_cases hk : n = k
  · subst hk
    rw [hp] at h1; cases h1
    have hl : n < M.length := by rw [← r.len]; exact (List.getElem?_eq_some_iff.mp hp).1
    rw [List.getElem?_set_self hl] at h2; cases h2
    exact q
  · rw [List.getElem?_set_ne hk] at h2
    refine (r.at_ k a mo' h1 h2).nx (Nx.write (ρ := []) e hm t') (upd_ne ?_)
    rintro rfl
    exact hk ((List.getElem_inj r.nd).mp ((List.getElem?_eq_some_iff.mp hp).2.trans (List.getElem?_eq_some_iff.mp h1).2.symm))
theorem RM.get {G : Gm} {H : Hp} {ρ α : List Addr} {M : Mem} (r : RM G ρ H α M) {n : Nat} {a : Addr} {mo : MO} (h1 : α[n]? = some a) (h2 : M[n]? = some mo) : RO G ρ H α a mo := r.at_ n a mo h1 h2

/-! ### slots -/
noncomputable abbrev Dst := List (Option D)
noncomputable def RS (G : Gm) (ρ : List Addr) (H : Hp) (α : List Addr) (δ : Dst) (σ : St) : Prop := δ.length = σ.length ∧ ∀ (i : Nat) d, δ[i]? = some (some d) → ∃ v, σ[i]? = some (some v) ∧ RD G ρ H α d v
theorem RS.nx {G : Gm} {H H' : Hp} {ρ α α' : List Addr} {δ : Dst} {σ : St} (r : RS G ρ H α δ σ) {χ : List Addr} (n : Nx χ α H α' H') (hs : ∀ b ∈ χ, b ∈ ρ := by intro b hb; cases hb) : RS G ρ H' α' δ σ :=
  ⟨r.1, fun i d h => let ⟨v, h1, h2⟩ := r.2 i d h; ⟨v, h1, h2.nx n hs⟩⟩
theorem RS.set {G : Gm} {H : Hp} {ρ α : List Addr} {δ : Dst} {σ : St} {d : D} {v : V} (r : RS G ρ H α δ σ) (q : RD G ρ H α d v) (i : Nat) : RS G ρ H α (δ.set i (some d)) (σ.set i (some v)) := by
  refine ⟨by simp [r.1], fun j e h => ?_⟩
  by_cases hj : i = j
  · subst hj
    have hl : i < δ.length := by have := (List.getElem?_eq_some_iff.mp h).1; simpa using this
    rw [List.getElem?_set_self hl] at h; cases h
    exact ⟨v, List.getElem?_set_self (by rw [← r.1]; exact hl), q⟩
  · rw [List.getElem?_set_ne hj] at h ⊢
    exact r.2 j e h
theorem RS.clear {G : Gm} {H : Hp} {ρ α : List Addr} {δ : Dst} {σ : St} (r : RS G ρ H α δ σ) (i : Nat) : RS G ρ H α (δ.set i none) (σ.set i none) := by
  refine ⟨by simp [r.1], fun j e h => ?_⟩
  by_cases hj : i = j
  · subst hj
    have hl : i < δ.length := by have := (List.getElem?_eq_some_iff.mp h).1; simpa using this
    rw [List.getElem?_set_self hl] at h; cases h
  · rw [List.getElem?_set_ne hj] at h ⊢
    exact r.2 j e h
noncomputable def dwipe (δ : Dst) : List Nat → Dst
  | [] => δ
  | v :: vs => (dwipe δ vs).set v none
theorem RS.wipe {G : Gm} {H : Hp} {ρ α : List Addr} {δ : Dst} {σ : St} (r : RS G ρ H α δ σ) : ∀ vs, RS G ρ H α (dwipe δ vs) (wipe σ vs)
  | [] => r
  | v :: vs => (RS.wipe r vs).clear v

/-! ### readings, lifted -/
noncomputable abbrev DK := D → Mem → Prop
noncomputable abbrev XD := Nat → D → Mem → Prop
noncomputable abbrev TD := Dst → Mem → DK → XD → Prop
noncomputable abbrev TTD := Dst → Mem → (Bool → Mem → Prop) → XD → Prop
noncomputable abbrev TAD := Dst → Mem → (List D → Mem → Prop) → XD → Prop
structure DE where
  nx : Dst → Mem → Prop
  rt : DK
  bk : Dst → Mem → Prop := fun _ _ => False
  ct : Dst → Mem → Prop := fun _ _ => False
  xc : Nat → D → Dst → Mem → Prop := fun _ _ _ _ => False
noncomputable abbrev TSD := DE → Dst → Mem → Prop
section
variable (G : Gm) (W : WX)
/-- a value's wish, from where α, H stand -/
noncomputable def wv (ρ α : List Addr) (H : Hp) (Q : VK) : DK := fun d M' => ∀ v H' α', Nx [] α H α' H' → RD G ρ H' α' d v → RM G ρ H' α' M' → Q v H'
noncomputable def wb (ρ α : List Addr) (H : Hp) (Q : Bool → Hp → Prop) : Bool → Mem → Prop := fun b M' => ∀ H' α', Nx [] α H α' H' → RM G ρ H' α' M' → Q b H'
noncomputable def wl (ρ α : List Addr) (H : Hp) (Q : List V → Hp → Prop) : List D → Mem → Prop := fun ds M' => ∀ vs H' α', Nx [] α H α' H' → RDs G ρ H' α' ds vs → RM G ρ H' α' M' → Q vs H'
noncomputable def ws (ρ α : List Addr) (H : Hp) (Q : St → Hp → Prop) : Dst → Mem → Prop := fun δ' M' => ∀ σ' H' α', Nx [] α H α' H' → RS G ρ H' α' δ' σ' → RM G ρ H' α' M' → Q σ' H'
noncomputable def wx (ρ α : List Addr) (H : Hp) (σ : St) : XD := fun c d M' => ∀ dx dv H' α', Nx [] α H α' H' → dx ∉ α' → dx ∉ ρ → H' dx = some (.xd [("value", dv)]) → RD G ρ H' α' d dv → RM G ρ H' α' M' → W (.ref (G.cad c)) (some dx) σ H'
noncomputable def wxs (ρ α : List Addr) (H : Hp) : Nat → D → Dst → Mem → Prop := fun c d δ' M' => ∀ dx dv σ' H' α', Nx [] α H α' H' → dx ∉ α' → dx ∉ ρ → H' dx = some (.xd [("value", dv)]) → RD G ρ H' α' d dv → RS G ρ H' α' δ' σ' → RM G ρ H' α' M' → W (.ref (G.cad c)) (some dx) σ' H'
noncomputable def up (t : TD) : TE := fun σ H Q => ∃ ρ δ α M Q' X', RS G ρ H α δ σ ∧ RM G ρ H α M ∧ t δ M Q' X' ∧ (∀ d M', Q' d M' → wv G ρ α H Q d M') ∧ (∀ c d M', X' c d M' → wx G W ρ α H σ c d M')
noncomputable def upt (t : TTD) : TT := fun σ H Q => ∃ ρ δ α M Q' X', RS G ρ H α δ σ ∧ RM G ρ H α M ∧ t δ M Q' X' ∧ (∀ d M', Q' d M' → wb G ρ α H Q d M') ∧ (∀ c d M', X' c d M' → wx G W ρ α H σ c d M')
noncomputable def upa (t : TAD) : TA := fun σ H Q => ∃ ρ δ α M Q' X', RS G ρ H α δ σ ∧ RM G ρ H α M ∧ t δ M Q' X' ∧ (∀ d M', Q' d M' → wl G ρ α H Q d M') ∧ (∀ c d M', X' c d M' → wx G W ρ α H σ c d M')
structure EL (ρ α : List Addr) (H : Hp) (E' : DE) (E : Ends) : Prop where
  nx : ∀ δ M, E'.nx δ M → ws G ρ α H E.nx δ M
  rt : ∀ d M, E'.rt d M → wv G ρ α H E.rt d M
  bk : ∀ δ M, E'.bk δ M → ws G ρ α H E.bk δ M
  ct : ∀ δ M, E'.ct δ M → ws G ρ α H E.ct δ M
  xc : ∀ c d δ M, E'.xc c d δ M → wxs G W ρ α H c d δ M
noncomputable def ups (t : TSD) : TS := fun E σ H => ∃ ρ δ α M E', RS G ρ H α δ σ ∧ RM G ρ H α M ∧ t E' δ M ∧ EL G W ρ α H E' E
end
section
variable {G : Gm} {W : WX} {ρ α α1 : List Addr} {H H1 : Hp}
theorem wv.nx (n : Nx [] α H α1 H1) {Q : VK} {d : D} {M : Mem} (h : wv G ρ α H Q d M) : wv G ρ α1 H1 Q d M := fun v H' α' m r s => h v H' α' (n.trans m) r s
theorem wx.nx (n : Nx [] α H α1 H1) {σ : St} {c : Nat} {d : D} {M : Mem} (h : wx G W ρ α H σ c d M) : wx G W ρ α1 H1 σ c d M := fun dx dv H' α' m a b c r s => h dx dv H' α' (n.trans m) a b c r s
theorem wxs.nx (n : Nx [] α H α1 H1) {c : Nat} {d : D} {δ : Dst} {M : Mem} (h : wxs G W ρ α H c d δ M) : wxs G W ρ α1 H1 c d δ M := fun dx dv σ' H' α' m a b c r r' s => h dx dv σ' H' α' (n.trans m) a b c r r' s
theorem ws.nx (n : Nx [] α H α1 H1) {Q : St → Hp → Prop} {δ : Dst} {M : Mem} (h : ws G ρ α H Q δ M) : ws G ρ α1 H1 Q δ M := fun σ' H' α' m r s => h σ' H' α' (n.trans m) r s
theorem wl.nx (n : Nx [] α H α1 H1) {Q : List V → Hp → Prop} {d : List D} {M : Mem} (h : wl G ρ α H Q d M) : wl G ρ α1 H1 Q d M := fun v H' α' m r s => h v H' α' (n.trans m) r s
theorem wb.nx (n : Nx [] α H α1 H1) {Q : Bool → Hp → Prop} {d : Bool} {M : Mem} (h : wb G ρ α H Q d M) : wb G ρ α1 H1 Q d M := fun H' α' m s => h H' α' (n.trans m) s
end

section
variable {G : Gm} {W : WX} {ρ α α1 : List Addr} {H H1 : Hp}
theorem EL.nx' (n : Nx [] α H α1 H1) {E' : DE} {E : Ends} (h : EL G W ρ α H E' E) : EL G W ρ α1 H1 E' E :=
  ⟨fun d M q => (h.nx d M q).nx n, fun d M q => (h.rt d M q).nx n, fun d M q => (h.bk d M q).nx n, fun d M q => (h.ct d M q).nx n, fun c d δ M q => (h.xc c d δ M q).nx n⟩
end
/-! ### monotony at the level of the hand layer -/
theorem _root_.L2.PE.mono {X : Cx} {e : Expr} {t t' : TE} (h : PE X e t) (f : ∀ σ H Q, t' σ H Q → t σ H Q) : PE X e t' := ⟨fun pins s σ H Q I q => h.run pins s σ H Q I (f _ _ _ q)⟩
theorem _root_.L2.PT.mono {X : Cx} {e : Expr} {t t' : TT} (h : PT X e t) (f : ∀ σ H Q, t' σ H Q → t σ H Q) : PT X e t' := ⟨fun pins s σ H Q I q => h.run pins s σ H Q I (f _ _ _ q)⟩
theorem _root_.L2.PW.mono {X : Cx} {e : Expr} {t t' : TT} (h : PW X e t) (f : ∀ σ H Q, t' σ H Q → t σ H Q) : PW X e t' := ⟨fun wh pins s σ H Q I q => h.run wh pins s σ H Q I (f _ _ _ q)⟩
theorem _root_.L2.PA.mono {X : Cx} {e : List Expr} {t t' : TA} (h : PA X e t) (f : ∀ σ H Q, t' σ H Q → t σ H Q) : PA X e t' := ⟨fun p pins s σ H Q I q => h.run p pins s σ H Q I (f _ _ _ q)⟩
theorem _root_.L2.PS.mono {X : Cx} {e : Stmt} {t t' : TS} (h : PS X e t) (f : ∀ D σ H, t' D σ H → t D σ H) : PS X e t' := ⟨fun pins s σ H D I q => h.run pins s σ H D I (f _ _ _ q)⟩
theorem _root_.L2.PSs.mono {X : Cx} {e : List Stmt} {t t' : TS} (h : PSs X e t) (f : ∀ D σ H, t' D σ H → t D σ H) : PSs X e t' := ⟨fun pins s σ H D I q => h.run pins s σ H D I (f _ _ _ q)⟩
end AA
/-! AA2: the small language and what it asks (weakest preconditions). -/
namespace AA
open PySem PySem.Spec L2
open PyProof.Rows hiding St

inductive Bop where | add | sub | mul | fdiv | mod | pow | shl | shr | band
  deriving DecidableEq
inductive Cop where | lt | le | gt | ge | eq | ne | is | isnot | inn | notin
  deriving DecidableEq
inductive Bi where | len | abs | sum | all | any | min2 | max2 | min1 | max1 | int | list | tuple | repr | str | sorted
  deriving DecidableEq
inductive Ty where | int | bool | str | tuple | list | dict | own (c : Nat) | bi (n : String)
set_option genSizeOf false
set_option genInjectivity false
mutual
inductive T where | nm (i : Nat) | tp (ts : Ts)
inductive Ts where | nil | cons (t : T) (ts : Ts)
end
mutual
inductive E where
  | nop | var (i : Nat) | non | bl (b : Bool) | int (i : Int) | str (x : Str) | cst (k : Nat)
  | bin (op : Bop) (a b : E) | neg (a : E) | not_ (a : E) | and_ (a b : E) | or_ (a b : E) | ife (c a b : E)
  | cmp (op : Cop) (a b : E) | chain (op op' : Cop) (a b c : E)
  | tup (es : Es) | lst (m : Bool) (es : Es)
  | idx (a i : E) | slc (a : E) (lo hi : Op) | slcm (a : E) (lo hi : Op)
  | call (k : Nat) (es : Es) | callk (k : Nat) (es ks : Es) | bi (b : Bi) (es : Es) | isi (a : E) (t : Ty)
  | comp (m : Bool) (own : List (Str × Nat)) (t : T) (it : I) (c : Op) (e : E)
  | lsti (m : Bool) (a b : E)
  | lst3 (m : Bool) (a b c : E) | dic0 | dmk (a : E) | rev (a : E) | revm (a : E) | lstm (a : E) | sset (a : E) | lenset (a : E) | catl (m : Bool) (a b : E) | lrep (a b : E) | lenr (a b c : E)
  | fld (a : E) (x : Str)
  | attr (a : E) (x : Str) | mcall (k : Nat) (a : E) (es : Es) | prop (k : Nat) (a : E) | new (k : Nat) (es : Es) | isin (a : E) (c : Nat) | dnew | dget (a k d : E) | dget1 (a k : E) | split (a e : E) | tupr (a b : E)
  | app (a e : E) | ext (a e : E) | pop (a : E) | popi (a i : E) | join (a e : E) | cnt (a e : E) | hear (k c : Nat) (e : E)
inductive Op where | no | so (e : E)
inductive Es where | nil | cons (e : E) (es : Es) | star (e : E) (es : Es)
inductive I where | seq (e : E) | rng1 (a : E) | rng2 (a b : E) | rng3 (a b c : E) | enum (a : E) | zip (a b : E) | chr (e : E)
end
mutual
inductive S where
  | ex (e : E) | asg (t : T) (e : E) | asgl (ts : Ts) (e : E) | asgc (i : Nat) (e : E) | par (i j : Nat) (a b : E) | par3 (i j l : Nat) (a b c : E)
  | seti (o i e : E) | sub2 (o i p j e : E) | fldn (o : E) (x : Str) (j : Nat) (e : E) | sattr (o : E) (x : Str) (e : E) | sattrs (i : Nat) (xs : List Str) (e : E) | ret (e : E) | retn | if_ (c : E) (a b : Ss) | for_ (t : T) (it : I) (b : Ss) | while_ (c : E) (b : Ss)
  | rs (c : Nat) (e : E) | try_ (c : Nat) (i : Nat) (b : Ss) (j : Nat) | pass | brk | cont
inductive Ss where | nil | cons (s : S) (ss : Ss)
end

set_option genSizeOf true
set_option genInjectivity true
/-! ### data -/
noncomputable def keyD : D → Option Key
  | .int i => some (.inl i)
  | .str x => some (.inr x)
  | _ => none
noncomputable def keyV : Key → D
  | .inl i => .int i
  | .inr x => .str x
noncomputable def valD (kvs : List (Key × D)) (k : Key) : Option D := (kvs.find? fun kv => decide (kv.1 = k)).map (·.2)
noncomputable def putD (kvs : List (Key × D)) (k : Key) (v : D) : List (Key × D) :=
  if (kvs.any fun kv => decide (kv.1 = k)) = true then kvs.map (fun kv => if kv.1 = k then (kv.1, v) else kv) else kvs ++ [(k, v)]
/-- the attribute of an instance, in its place or at the end -/
noncomputable def putA (x : Str) (v : D) : List (Str × D) → List (Str × D)
  | [] => [(x, v)]
  | (k, y) :: r => if k = x then (k, v) :: r else (k, y) :: putA x v r
mutual
noncomputable def pd : D → Option PyData
  | .non => some .none
  | .bl b => some (.bool b)
  | .int i => some (.int i)
  | .str x => some (.str x)
  | .tup xs => match pds xs with | some ds => some (.tuple ds) | none => none
  | .lst xs => match pds xs with | some ds => some (.list ds) | none => none
  | _ => none
noncomputable def pds : List D → Option (List PyData)
  | [] => some []
  | x :: xs => match pd x, pds xs with | some d, some ds => some (d :: ds) | _, _ => none
end
/-- the items of a list or tuple -/
noncomputable def seqD (M : Mem) : D → Option (List D)
  | .tup xs => some xs
  | .lst xs => some xs
  | .ref n => match M[n]? with | some (.lst xs) => some xs | _ => none
  | _ => none
noncomputable def truD (M : Mem) : D → Option Bool
  | .non => some false
  | .bl b => some b
  | .int i => some (i != 0)
  | .tup xs => some (!xs.isEmpty)
  | .lst xs => some (!xs.isEmpty)
  | .ref n => match M[n]? with | some (.lst xs) => some (!xs.isEmpty) | _ => none
  | _ => none
noncomputable def lstD (M : Mem) : D → Option (List D)
  | .lst xs => some xs
  | .ref n => match M[n]? with | some (.lst xs) => some xs | _ => none
  | _ => none
noncomputable def idxD (M : Mem) (x y : D) (k : D → Prop) : Prop :=
  match y with
  | .int j => (match x with
    | .str z => z.length ≤ 16777216 ∧ (match atI z.cps.toList j with | some c => k (.str ⟨#[c]⟩) | none => False)
    | _ => (match seqD M x with | some xs => (match atI xs j with | some d => k d | none => False) | none => (match x with
      | .ref n => (match M[n]? with | some (.dct kvs) => (match valD kvs (.inl j) with | some d => k d | none => False) | _ => False)
      | _ => False)))
  | .str z => (match x with
    | .ref n => (match M[n]? with | some (.dct kvs) => (match valD kvs (.inr z) with | some d => k d | none => False) | _ => False)
    | _ => False)
  | _ => False
noncomputable def cutL (xs : List D) (l h : Option Int) : List D := (xs.drop (HT.sIx xs.length 0 l)).take (HT.sIx xs.length xs.length h - HT.sIx xs.length 0 l)
noncomputable def slcD (M : Mem) (x : D) (l h : Option Int) (k : D → Prop) : Prop :=
  match x with
  | .ref n => (match M[n]? with | some (.lst xs) => k (.lst (cutL xs l h)) | _ => False)
  | .tup xs => k (.tup (cutL xs l h))
  | .lst xs => k (.lst (cutL xs l h))
  | .str z => z.length ≤ 16777216 ∧ k (.str (cutS z l h))
  | _ => False
/-- data as it stands: a numbered list too -/
noncomputable def pdM (M : Mem) : D → Option PyData
  | .ref n => match M[n]? with
    | some (.lst xs) => (match pds xs with | some ds => some (.list ds) | none => none)
    | _ => none
  | d => pd d
/-- once a bound of zip, no more -/
noncomputable def tupB (_ : D) : Bool := true
noncomputable def isTupD : D → Bool
  | .tup _ => true | _ => false
noncomputable def asInt (x : D) (k : Int → Prop) : Prop :=
  match x with
  | .int i => k i
  | _ => False
noncomputable def asBl (x : D) (k : Bool → Prop) : Prop :=
  match x with
  | .bl i => k i
  | _ => False
noncomputable def asTru (M : Mem) (x : D) (k : Bool → Prop) : Prop :=
  match truD M x with
  | some b => k b
  | none => False
noncomputable def asSeq (M : Mem) (x : D) (k : List D → Prop) : Prop :=
  match seqD M x with
  | some b => k b
  | none => False
noncomputable def asLst (M : Mem) (x : D) (k : List D → Prop) : Prop :=
  match lstD M x with
  | some b => k b
  | none => False
noncomputable def slotD (δ : List (Option D)) (i : Nat) (k : D → Prop) : Prop :=
  match δ[i]? with
  | some (some d) => k d
  | _ => False
noncomputable def cstD (l : List (Str × D)) (i : Nat) (k : D → Prop) : Prop :=
  match l[i]? with
  | some c => k c.2
  | none => False
noncomputable def numL (M : Mem) (x : D) (k : Nat → List D → Prop) : Prop :=
  match x with
  | .ref n => (match M[n]? with | some (.lst xs) => k n xs | _ => False)
  | _ => False
/-- a dict -/
noncomputable def dctD (M : Mem) (x : D) (k : Nat → List (Key × D) → Prop) : Prop :=
  match x with
  | .ref n => (match M[n]? with | some (.dct kvs) => k n kvs | _ => False)
  | _ => False
/-- x.get(y, z) -/
noncomputable def dgetD (M : Mem) (x y z : D) (k : D → Prop) : Prop :=
  dctD M x fun _ kvs => match keyD y with | some key => k ((valD kvs key).getD z) | none => False
noncomputable def setiD (xs : List D) (i : Int) (k : Nat → Prop) : Prop :=
  match ixN xs.length i with
  | some j => k j
  | none => False
/-- x[y] = v -/
noncomputable def putiD (M : Mem) (x y v : D) (k : Mem → Prop) : Prop :=
  match x with
  | .ref n => (match M[n]? with
    | some (.lst xs) => (match y with | .int i => setiD xs i fun j => k (M.set n (.lst (xs.set j v))) | _ => False)
    | some (.dct kvs) => (match keyD y with | some key => kvs.length < 16777216 ∧ k (M.set n (.dct (putD kvs key v))) | none => False)
    | _ => False)
  | _ => False
noncomputable def tupD (x : D) (k : List D → Prop) : Prop :=
  match x with
  | .tup xs => k xs
  | _ => False
noncomputable def popD (xs : List D) (k : D → List D → Prop) : Prop :=
  match xs.getLast? with
  | some y => k y xs.dropLast
  | none => False
noncomputable def popiD (xs : List D) (j : Int) (k : D → List D → Prop) : Prop :=
  0 ≤ j ∧ j < xs.length ∧ xs.length ≤ 16777216 ∧ ∀ y, xs[j.toNat]? = some y → k y (xs.eraseIdx j.toNat)
noncomputable def twoD (ds : List D) (k : D → D → Prop) : Prop :=
  match ds with
  | [x, y] => k x y
  | _ => False
noncomputable def threeD (ds : List D) (k : D → D → D → Prop) : Prop :=
  match ds with
  | [x, y, z] => k x y z
  | _ => False
noncomputable def fldD (nc : Nat) (x : Str) (d : D) (k : D → Prop) : Prop :=
  match d with
  | .exc c v => c < nc ∧ x = "value" ∧ k v
  | _ => False
noncomputable def intD : D → Option Int
  | .int i => some i
  | _ => none
noncomputable def intsD : List D → Option (List Int)
  | [] => some []
  | .int i :: r => match intsD r with | some is => some (i :: is) | none => none
  | _ :: _ => none
noncomputable def asInts (xs : List D) (k : List Int → Prop) : Prop :=
  match intsD xs with
  | some is => k is
  | none => False
noncomputable def blsD : List D → Option (List Bool)
  | [] => some []
  | .bl i :: r => match blsD r with | some is => some (i :: is) | none => none
  | _ :: _ => none
noncomputable def strsD : List D → Option (List Str)
  | [] => some []
  | .str i :: r => match strsD r with | some is => some (i :: is) | none => none
  | _ :: _ => none
/-- x in a list or tuple -/
noncomputable def inL (M : Mem) (x y : D) (k : Bool → Prop) : Prop :=
  match seqD M y with
  | some ys => (match x with
    | .str a => (match strsD ys with | some ss => k (decide (a ∈ ss)) | none => False)
    | .int i => (match intsD ys with | some is => k (decide (i ∈ is)) | none => False)
    | .non => (match pdM M y with | some (.list ds) => SeqAt.shaped (.list ds) = true ∧ k (ds.any fun z => PyData.eqv z .none) | _ => False)
    | _ => False)
  | none => False
/-- no item is numbered or an exception's -/
noncomputable def flatD : D → Bool
  | .non => true | .bl _ => true | .int _ => true | .str _ => true | _ => false
noncomputable def isNon : D → Bool
  | .non => true | _ => false
/-- x in a dict whose keys are tuples of whole numbers -/
noncomputable def dtsIn (x : D) (ks : List (List Int)) (k : Bool → Prop) : Prop :=
  match x with
  | .tup xs => (match intsD xs with | some ns => k (decide (ns ∈ ks)) | none => False)
  | _ => False
theorem dtsIn.inv {x : D} {ks : List (List Int)} {k : Bool → Prop} (h : dtsIn x ks k) : ∃ xs ns, x = .tup xs ∧ intsD xs = some ns ∧ k (decide (ns ∈ ks)) := by
  unfold dtsIn at h
  split at h
  · split at h
    · exact ⟨_, _, rfl, by assumption, h⟩
    · exact h.elim
  · exact h.elim
/-- the first part of each pair, a tuple of whole numbers -/
noncomputable def pairKs : List D → Option (List (List Int))
  | [] => some []
  | d :: ds => match d, pairKs ds with
    | .tup [.tup xs, _], some r => (match intsD xs with | some ns => some (ns :: r) | none => none)
    | _, _ => none
/-- each once, as it first comes -/
noncomputable def onceK (acc : List (List Int)) : List (List Int) → List (List Int)
  | [] => acc
  | k :: ks => onceK (if k ∈ acc then acc else acc ++ [k]) ks
/-- dict(pairs) -/
noncomputable def dmkD (x : D) (k : List (List Int) → Prop) : Prop :=
  match x with
  | .lst ds => (match pairKs ds with | some ks => ds.length ≤ 16777216 ∧ k (onceK [] ks) | none => False)
  | _ => False
theorem dmkD.inv {x : D} {k : List (List Int) → Prop} (h : dmkD x k) : ∃ ds ks, x = .lst ds ∧ pairKs ds = some ks ∧ ds.length ≤ 16777216 ∧ k (onceK [] ks) := by
  unfold dmkD at h
  split at h
  · split at h
    · exact ⟨_, _, rfl, by assumption, h.1, h.2⟩
    · exact h.elim
  · exact h.elim
/-- x in y -/
noncomputable def inD (M : Mem) (x y : D) (k : Bool → Prop) : Prop :=
  match y with
  | .str b => (match x with | .str a => k (!(Builtin.Str.occurrences b a 0 b.length 1).isEmpty) | _ => False)
  | .ref n => (match M[n]? with
    | some (.dct kvs) => (match keyD x with | some key => k (valD kvs key).isSome | none => False)
    | _ => inL M x y k)
  | .dts ks => dtsIn x ks k
  | _ => inL M x y k
/-- a text again and again -/
noncomputable def repS (a : Str) (n : Nat) : Str := ⟨(List.replicate n a.cps).foldl (· ++ ·) #[]⟩
/-- the signs of a text -/
noncomputable def chrsD (z : Str) : List D := z.cps.toList.map fun c => .str ⟨#[c]⟩
noncomputable def joinD (M : Mem) (x y : D) (k : Str → Prop) : Prop :=
  match x, seqD M y with
  | .str a, some ys => (match strsD ys with | some ss => (ss.map (·.length)).sum + ss.length * a.length ≤ 16777216 ∧ k (Txt.join a ss) | none => False)
  | _, _ => False
noncomputable def cntD (x y : D) (k : Int → Prop) : Prop :=
  match x, y with
  | .str a, .str b => k (Txt.count a b)
  | _, _ => False
noncomputable def asStr (x : D) (k : Str → Prop) : Prop :=
  match x with
  | .str i => k i
  | _ => False
noncomputable def rngC (lo c : Int) (n : Nat) : List D := (List.range n).map fun i => D.int (lo + (i : Nat) * c)
noncomputable def MulOk (i j : Int) : Prop := CMul i j ∨ CMulW i j
noncomputable def DivOk (j : Int) : Prop := 0 < j ∧ (j < 1073741824 ∨ j.natAbs.log2 < 9000)
noncomputable def PowOk (i j : Int) : Prop := 0 ≤ j ∧ ((i.natAbs.log2 : Int) + 1) * j ≤ 2 ^ 27

noncomputable def binD (op : Bop) (x y : D) (k : D → Prop) : Prop :=
  match op, x, y with
  | .add, .int i, .int j => k (.int (i + j))
  | .add, .str a, .str b => a.length + b.length ≤ 16777216 ∧ k (.str (a ++ b))
  | .add, .tup xs, .tup ys => xs.length + ys.length ≤ 16777216 ∧ k (.tup (xs ++ ys))
  | .sub, .int i, .int j => k (.int (i - j))
  | .mul, .int i, .int j => MulOk i j ∧ k (.int (i * j))
  | .mul, .tup xs, .int j => (xs ≠ [] ∧ 2 ≤ j ∧ j ≤ 1000 ∧ xs.length ≤ 1000) ∧ k (.tup (List.replicate j.toNat xs).flatten)
  | .mul, .str a, .int j => (0 ≤ j ∧ j ≤ 16777216 ∧ a.length * j.toNat ≤ 16777216) ∧ k (.str (repS a j.toNat))
  | .fdiv, .int i, .int j => DivOk j ∧ k (.int (i / j))
  | .mod, .int i, .int j => 0 < j ∧ k (.int (i % j))
  | .pow, .int i, .int j => PowOk i j ∧ k (.int (i ^ j.toNat))
  | _, _, _ => False
noncomputable def revD (x : D) (k : D → Prop) : Prop :=
  match x with
  | .tup xs => k (.tup xs.reverse)
  | _ => False
/-- tuples of whole numbers, one no greater than the other -/
noncomputable def leT (ns ms : List Int) : Bool := Ob.lexAt (fun j => decide (ns.getD j 0 = ms.getD j 0)) (fun j => decide (ns.getD j 0 ≤ ms.getD j 0)) (decide (ns.length ≤ ms.length)) 0 (min ns.length ms.length)
noncomputable def leTD (xs ys : List D) (k : Bool → Prop) : Prop :=
  match intsD xs, intsD ys with
  | some ns, some ms => k (leT ns ms)
  | _, _ => False
noncomputable def leD (x y : D) (k : Bool → Prop) : Prop :=
  match x, y with
  | .int i, .int j => k (decide (i ≤ j))
  | .tup xs, .tup ys => leTD xs ys k
  | _, _ => False
theorem leD.inv {x y : D} {k : Bool → Prop} (h : leD x y k) : (∃ i j, x = .int i ∧ y = .int j ∧ k (decide (i ≤ j))) ∨ ∃ xs ys ns ms, x = .tup xs ∧ y = .tup ys ∧ intsD xs = some ns ∧ intsD ys = some ms ∧ k (leT ns ms) := by
  unfold leD at h
  split at h
  · exact .inl ⟨_, _, rfl, rfl, h⟩
  · unfold leTD at h
    split at h
    · exact .inr ⟨_, _, _, _, rfl, rfl, by assumption, by assumption, h⟩
    · exact h.elim
  · exact h.elim
noncomputable def dicD (M : Mem) (n : Nat) (k : Bool → Prop) : Prop :=
  match M[n]? with
  | some (.dct kvs) => k kvs.isEmpty
  | _ => False
theorem dicD.inv {M : Mem} {n : Nat} {k : Bool → Prop} (h : dicD M n k) : ∃ kvs, M[n]? = some (.dct kvs) ∧ k kvs.isEmpty := by
  unfold dicD at h
  split at h
  · exact ⟨_, by assumption, h⟩
  · exact h.elim
noncomputable def eqRest (M : Mem) (x y : D) (k : Bool → Prop) : Prop :=
  match pdM M x, pdM M y with
  | some d, some e => SeqAt.shaped d = true ∧ SeqAt.shaped e = true ∧ k (PyData.eqv d e)
  | _, _ => False
noncomputable def cmpEq (M : Mem) (x y : D) (k : Bool → Prop) : Prop :=
  match x with
  | .str a => (match y with | .str b => k (decide (a = b)) | _ => eqRest M x y k)
  | .ref n => (match y with | .dic0 => dicD M n k | _ => eqRest M x y k)
  | _ => eqRest M x y k
noncomputable def cmpD (op : Cop) (M : Mem) (x y : D) (k : Bool → Prop) : Prop :=
  match op with
  | .lt => match x, y with | .int i, .int j => k (decide (i < j)) | _, _ => False
  | .le => leD x y k
  | .gt => match x, y with | .int i, .int j => k (decide (j < i)) | _, _ => False
  | .ge => match x, y with | .int i, .int j => k (decide (j ≤ i)) | _, _ => False
  | .eq => cmpEq M x y k
  | .ne => cmpEq M x y fun b => k (!b)
  | .is => match x, y with | .non, .non => k true | _, .non => k false | .bl a, .bl b => k (decide (a = b)) | _, _ => False
  | .isnot => match x, y with | .non, .non => k false | _, .non => k true | .bl a, .bl b => k (!decide (a = b)) | _, _ => False
  | .inn => inD M x y k
  | .notin => inD M x y fun b => k (!b)
noncomputable def isiD (nc : Nat) (t : Ty) (x : D) (M : Mem) (sub : Nat → Nat → Bool) (k : Bool → Prop) : Prop :=
  match t, x with
  | .int, .int _ => k true | .int, .bl _ => k true | .int, .ref n => (match M[n]? with | some (.lst _) => k false | _ => False) | .int, .exc _ _ => False | .int, .dts _ => False | .int, _ => k false
  | .bool, .bl _ => k true | .bool, .ref n => (match M[n]? with | some (.lst _) => k false | _ => False) | .bool, .exc _ _ => False | .bool, .dts _ => False | .bool, _ => k false
  | .str, .str _ => k true | .str, .ref n => (match M[n]? with | some (.lst _) => k false | _ => False) | .str, .exc _ _ => False | .str, .dts _ => False | .str, _ => k false
  | .tuple, .tup _ => k true | .tuple, .ref n => (match M[n]? with | some (.lst _) => k false | _ => False) | .tuple, .exc _ _ => False | .tuple, .dts _ => False | .tuple, _ => k false
  | .list, .lst _ => k true | .list, .ref n => (match M[n]? with | some (.lst _) => k true | _ => False) | .list, .exc _ _ => False | .list, .dts _ => False | .list, _ => k false
  | .own c, .exc c' _ => c' < nc ∧ k (sub c' c)
  | .own _, .ref n => (match M[n]? with | some (.lst _) => k false | _ => False)
  | .own _, .dts _ => False
  | .own _, _ => k false
  | .bi n, .exc c' _ => c' < nc ∧ n = "ValueError" ∧ k true
  | .bi n, .non => n = "ValueError" ∧ k false
  | _, _ => False
/-- what may be shown -/
noncomputable def ReprOk (p : PyData) : Prop := p.showable = true ∧ p.hasDict = false ∧ p.depth ≤ 40 ∧ p.shown.length ≤ 16777216
noncomputable def oneD (ds : List D) (k : D → Prop) : Prop :=
  match ds with
  | [x] => k x
  | _ => False
noncomputable def lenD (M : Mem) (d : D) (k : D → Prop) : Prop :=
  match d with
  | .str z => z.length ≤ 16777216 ∧ k (.int z.length)
  | .ref n => (match M[n]? with | some (.lst xs) => k (.int xs.length) | some (.dct kvs) => k (.int kvs.length) | _ => False)
  | .dts ks => k (.int ks.length)
  | d => (match seqD M d with | some xs => k (.int xs.length) | none => False)
noncomputable def toIntD (d : D) (k : D → Prop) : Prop :=
  match d with
  | .int i => k (.int i)
  | .bl b => k (.int (b2i b))
  | .str z => (match PySem.intText? z with | some n => z.length ≤ 640 ∧ k (.int n) | none => False)
  | _ => False
noncomputable def toTupD (M : Mem) (d : D) (k : D → Prop) : Prop :=
  match d with
  | .tup xs => k (.tup xs)
  | .lst xs => k (.tup xs)
  | .ref n => (match M[n]? with | some (.lst xs) => k (.tup xs) | some (.dct kvs) => k (.tup (kvs.map fun kv => keyV kv.1)) | _ => False)
  | _ => False
noncomputable def toLstD (M : Mem) (d : D) (k : D → Prop) : Prop :=
  match d with
  | .tup xs => k (.lst xs)
  | .lst xs => k (.lst xs)
  | .ref n => (match M[n]? with | some (.lst xs) => k (.lst xs) | _ => False)
  | _ => False
/-- built-in functions -/
noncomputable def biD (rp : PyData → Str) (b : Bi) (ds : List D) (M : Mem) (k : D → Prop) : Prop :=
  match b with
  | .len => oneD ds fun d => lenD M d k
  | .abs => oneD ds fun d => asInt d fun i => k (.int (if i < 0 then -i else i))
  | .sum => oneD ds fun d => asSeq M d fun xs => asInts xs fun is => k (.int is.sum)
  | .all => oneD ds fun d => asLst M d fun xs => (match blsD xs with | some is => k (.bl (is.all id)) | none => False)
  | .any => oneD ds fun d => asLst M d fun xs => (match blsD xs with | some is => k (.bl (is.any id)) | none => False)
  | .min2 => twoD ds fun x y => asInt x fun m => asInt y fun n => k (.int (if n < m then n else m))
  | .max2 => twoD ds fun x y => asInt x fun m => asInt y fun n => k (.int (if n > m then n else m))
  | .int => oneD ds fun d => toIntD d k
  | .tuple => oneD ds fun d => toTupD M d k
  | .list => oneD ds fun d => toLstD M d k
  | .min1 => oneD ds fun d => asSeq M d fun xs => asInts xs fun is => is ≠ [] ∧ ∀ m, m ∈ is → (∀ y, y ∈ is → m ≤ y) → k (.int m)
  | .max1 => oneD ds fun d => asSeq M d fun xs => asInts xs fun is => is ≠ [] ∧ ∀ m, m ∈ is → (∀ y, y ∈ is → y ≤ m) → k (.int m)
  | .str => oneD ds fun d => asInt d fun i => i.natAbs.log2 < 1920 ∧ k (.str (toString i))
  | .sorted => oneD ds fun d => asLst M d fun xs => asInts xs fun is => ∀ js : List Int, js.Perm is → js.Pairwise (· ≤ ·) → k (.lst (js.map D.int))
  | .repr => oneD ds fun d => (match pdM M d with | some p => ReprOk p ∧ k (.str (rp p)) | none => False)
noncomputable def bindT : T → D → Dst → Option Dst
  | .nm i, d, δ => some (δ.set i (some d))
  | .tp ts, .tup xs, δ => bindTs ts xs δ
  | .tp ts, .lst xs, δ => bindTs ts xs δ
  | _, _, _ => none
where bindTs : Ts → List D → Dst → Option Dst
  | .nil, [], δ => some δ
  | .cons t ts, x :: xs, δ => match bindT t x δ with | some δ' => bindTs ts xs δ' | none => none
  | _, _, _ => none
noncomputable def rngL (lo : Int) (n : Nat) : List D := (List.range n).map fun i => D.int (lo + (i : Nat))
noncomputable def RgB (i : Int) : Prop := -(2 ^ 62) ≤ i ∧ i < 2 ^ 62
noncomputable def enumL (xs : List D) : List D := xs.zipIdx.map fun p => .tup [.int (p.2 : Nat), p.1]
noncomputable def zipL (xs ys : List D) : List D := (xs.zip ys).map fun p => .tup [p.1, p.2]

/-! ### what is asked -/
noncomputable abbrev DSp := List D → Mem → DK → XD → Prop
/-- how a def stands in a class -/
inductive MK where | init | meth | prop
  deriving DecidableEq
structure Fn where
  name : Str
  par : List Str
  kw : Bool
  sp : DSp
  own : Option (Nat × MK × Str)
structure Tab where
  cst : List (Str × D)
  fn : List Fn
  cls : List Str
  sub : Nat → Nat → Bool
  rp : PyData → Str
  lams : List (List Str)
  ats : List (Nat × Str)
  ins : List (Nat × Str)
/-- a stay: what a walked thing must keep -/
noncomputable def stayD (d : D) (xs : List D) (M : Mem) : Prop := seqD M d = some xs
noncomputable def callD (l : List Fn) (k : Nat) (ds : List D) (M : Mem) (Q : DK) (X : XD) : Prop :=
  match l[k]? with
  | some f => ds.length = f.par.length ∧ f.sp ds M Q X
  | none => False
/-- an instance of a class -/
noncomputable def insD (M : Mem) (x : D) (k : Nat → Nat → List (Str × D) → Prop) : Prop :=
  match x with
  | .ref n => (match M[n]? with | some (.ins c fs) => k n c fs | _ => False)
  | _ => False
noncomputable def lookA (fs : List (Str × D)) (x : Str) : Option D := fs.lookup x
noncomputable def attrD (ats : List (Nat × Str)) (M : Mem) (x : D) (f : Str) (k : D → Prop) : Prop :=
  insD M x fun _ c fs => (c, f) ∈ ats ∧ (match lookA fs f with | some d => k d | none => False)
/-- a method's or a getter's call: the k-th def stands in the class of x -/
noncomputable def ownD (l : List Fn) (k : Nat) (kd : MK) (c : Nat) (p : Prop) : Prop :=
  match l[k]? with
  | some f => (match f.own with | some (c', kd', _) => c' = c ∧ kd' = kd ∧ p | none => False)
  | none => False
noncomputable def nameD (l : List Fn) (k : Nat) : Str :=
  match l[k]? with
  | some f => (match f.own with | some (_, _, m) => m | none => Str.empty)
  | none => Str.empty
/-- the class that the k-th def makes -/
noncomputable def clsD (l : List Fn) (k : Nat) (p : Nat → Prop) : Prop :=
  match l[k]? with
  | some f => (match f.own with | some (c, .init, _) => p c | _ => False)
  | none => False
noncomputable def isinD (M : Mem) (x : D) (c : Nat) (k : Bool → Prop) : Prop :=
  match x with
  | .ref n => (match M[n]? with | some (.ins c' _) => c' = c ∧ k true | some (.lst _) => k false | some (.dct _) => k false | none => False)
  | .exc _ _ => False
  | .dts _ => False
  | _ => k false
noncomputable def splitD (x y : D) (k : List D → Prop) : Prop :=
  match x, y with
  | .str a, .str b => (b.length == 0) = false ∧ a.length + 2 ≤ 16777216 ∧ k ((Txt.split a b).map D.str)
  | _, _ => False
/-- several attributes of one instance -/
noncomputable def putsA : List Str → List D → List (Str × D) → Option (List (Str × D))
  | [], [], fs => some fs
  | x :: xs, d :: ds, fs => putsA xs ds (putA x d fs)
  | _, _, _ => none
noncomputable def bndD (o : Option (List (Option D))) (k : List (Option D) → Prop) : Prop :=
  match o with
  | some δ => k δ
  | none => False
noncomputable abbrev IK := List D → (Mem → Prop) → Mem → Prop
noncomputable def forD (b : D → Dst → Option Dst) (body : TSD) (stay : Mem → Prop) (E : DE) : List D → Dst → Mem → Prop
  | [], δ, M => stay M ∧ E.nx δ M
  | d :: ds, δ, M => stay M ∧ bndD (b d δ) fun δ' => body { E with nx := forD b body stay E ds, ct := forD b body stay E ds, bk := E.nx } δ' M
noncomputable def whileN (c : TTD) (body : TSD) (E : DE) : Nat → Dst → Mem → Prop
  | 0, _, _ => False
  | n + 1, δ, M => c δ M (fun b M' => if b = true then body { E with nx := whileN c body E n, ct := whileN c body E n, bk := E.nx } δ M' else E.nx δ M') (fun _ _ _ => False)
noncomputable def compD (b : D → Dst → Option Dst) (c : TTD) (e : TD) (stay : Mem → Prop) (δ : Dst) (Q : List D → Mem → Prop) : List D → List D → Mem → Prop
  | [], acc, M => stay M ∧ Q acc M
  | d :: ds, acc, M => stay M ∧ bndD (b d δ) fun δ' => c δ' M (fun t M1 => if t = true then e δ' M1 (fun y M2 => acc.length < 16777216 ∧ compD b c e stay δ Q ds (acc ++ [y]) M2) (fun _ _ _ => False) else compD b c e stay δ Q ds acc M1) (fun _ _ _ => False)
section
variable (Γ : Tab)
mutual
noncomputable def wpE : E → TD
  | .nop => fun _ _ _ _ => False
  | .var i => fun δ M Q _ => slotD δ i fun d => Q d M
  | .non => fun _ M Q _ => Q .non M
  | .bl b => fun _ M Q _ => Q (.bl b) M
  | .int i => fun _ M Q _ => Q (.int i) M
  | .str x => fun _ M Q _ => Q (.str x) M
  | .cst k => fun _ M Q _ => cstD Γ.cst k fun d => Q d M
  | .bin op a b => fun δ M Q X => wpE a δ M (fun x M1 => wpE b δ M1 (fun y M2 => binD op x y fun z => Q z M2) X) X
  | .neg a => fun δ M Q X => wpE a δ M (fun x M1 => asInt x fun i => Q (.int (-i)) M1) X
  | .not_ a => fun δ M Q X => wpE a δ M (fun x M1 => asTru M1 x fun b => Q (.bl (!b)) M1) X
  | .and_ a b => fun δ M Q X => wpE a δ M (fun x M1 => asBl x fun c => if c = true then wpE b δ M1 Q X else Q (.bl false) M1) X
  | .or_ a b => fun δ M Q X => wpE a δ M (fun x M1 => asBl x fun c => if c = true then Q (.bl true) M1 else wpE b δ M1 Q X) X
  | .ife c a b => fun δ M Q X => wpT c δ M (fun t M1 => if t = true then wpE a δ M1 Q X else wpE b δ M1 Q X) X
  | .cmp op a b => fun δ M Q X => wpE a δ M (fun x M1 => wpE b δ M1 (fun y M2 => cmpD op M2 x y fun t => Q (.bl t) M2) X) X
  | .chain op op' a b c => fun δ M Q X => wpE a δ M (fun x M1 => wpE b δ M1 (fun y M2 => cmpD op M2 x y fun t => if t = true then wpE c δ M2 (fun z M3 => cmpD op' M3 y z fun u => Q (.bl u) M3) X else Q (.bl false) M2) X) X
  | .tup es => fun δ M Q X => wpEs es δ M (fun ds M1 => ds.length ≤ 16777216 ∧ Q (.tup ds) M1) X
  | .lst false es => fun δ M Q X => wpEs es δ M (fun ds M1 => ds.length ≤ 16777216 ∧ Q (.lst ds) M1) X
  | .lst true es => fun δ M Q X => wpEs es δ M (fun ds M1 => ds.length ≤ 16777216 ∧ Q (.ref M1.length) (M1 ++ [.lst ds])) X
  | .idx a i => fun δ M Q X => wpE a δ M (fun x M1 => wpE i δ M1 (fun y M2 => idxD M2 x y fun d => Q d M2) X) X
  | .slc a lo hi => fun δ M Q X => wpE a δ M (fun x M1 => wpO lo δ M1 (fun l M2 => wpO hi δ M2 (fun h M3 => slcD M3 x l h fun d => Q d M3) X) X) X
  | .slcm a lo hi => fun δ M Q X => wpE a δ M (fun x M1 => wpO lo δ M1 (fun l M2 => wpO hi δ M2 (fun h M3 => asLst M3 x fun xs => Q (.ref M3.length) (M3 ++ [.lst (cutL xs l h)])) X) X) X
  | .call k es => fun δ M Q X => wpEs es δ M (fun ds M1 => callD Γ.fn k ds M1 Q X) X
  | .callk k es ks => fun δ M Q X => wpEs es δ M (fun ds M1 => wpEs ks δ M1 (fun cs M2 => callD Γ.fn k (ds ++ cs) M2 Q X) X) X
  | .bi b es => fun δ M Q X => wpEs es δ M (fun ds M1 => biD Γ.rp b ds M1 fun d => Q d M1) X
  | .isi a t => fun δ M Q X => wpE a δ M (fun x M1 => isiD Γ.cls.length t x M1 Γ.sub fun b => Q (.bl b) M1) X
  | .comp false own t it c e => fun δ M Q X => wpI it δ M (fun xs stay M1 => compD (bindT t) (wpC c) (wpE e) stay (dwipe δ (own.map (·.2))) (fun ys M2 => Q (.lst ys) M2) xs [] M1) X
  | .comp true own t it c e => fun δ M Q X => wpI it δ M (fun xs stay M1 => compD (bindT t) (wpC c) (wpE e) stay (dwipe δ (own.map (·.2))) (fun ys M2 => Q (.ref M2.length) (M2 ++ [.lst ys])) xs [] M1) X
  | .lsti m a b => fun δ M Q X => wpE a δ M (fun x M1 => wpE b δ M1 (fun y M2 => asInt x fun i => asInt y fun j => RgB i ∧ RgB j ∧ (j - i).toNat ≤ 16777216 ∧ (if m = true then Q (.ref M2.length) (M2 ++ [.lst (rngL i (j - i).toNat)]) else Q (.lst (rngL i (j - i).toNat)) M2)) X) X
  | .attr a x => fun δ M Q X => wpE a δ M (fun d M1 => attrD Γ.ats M1 d x fun v => Q v M1) X
  | .mcall k a es => fun δ M Q X => wpE a δ M (fun x M1 => insD M1 x fun _ c fs => ownD Γ.fn k .meth c (lookA fs (nameD Γ.fn k) = none ∧ wpEs es δ M1 (fun ds M2 => callD Γ.fn k (x :: ds) M2 Q X) X)) X
  | .prop k a => fun δ M Q X => wpE a δ M (fun x M1 => insD M1 x fun _ c _ => ownD Γ.fn k .prop c (callD Γ.fn k [x] M1 Q fun _ _ _ => False)) X
  | .new k es => fun δ M Q X => wpEs es δ M (fun ds M1 => clsD Γ.fn k fun c => callD Γ.fn k (.ref M1.length :: ds) (M1 ++ [.ins c []]) (fun v M2 => v = .non ∧ Q (.ref M1.length) M2) X) X
  | .isin a c => fun δ M Q X => wpE a δ M (fun x M1 => isinD M1 x c fun b => Q (.bl b) M1) X
  | .dget a k d => fun δ M Q X => wpE a δ M (fun x M1 => dctD M1 x fun _ _ => wpE k δ M1 (fun y M2 => wpE d δ M2 (fun z M3 => dgetD M3 x y z fun v => Q v M3) X) X) X
  | .dget1 a k => fun δ M Q X => wpE a δ M (fun x M1 => dctD M1 x fun _ _ => wpE k δ M1 (fun y M2 => dgetD M2 x y .non fun v => Q v M2) X) X
  | .dnew => fun _ M Q _ => Q (.ref M.length) (M ++ [.dct []])
  | .split a e => fun δ M Q X => wpE a δ M (fun x M1 => asStr x fun _ => wpE e δ M1 (fun y M2 => splitD x y fun ys => Q (.ref M2.length) (M2 ++ [.lst ys])) X) X
  | .tupr a b => fun δ M Q X => wpE a δ M (fun x M1 => wpE b δ M1 (fun y M2 => asInt x fun i => asInt y fun j => RgB i ∧ RgB j ∧ (j - i).toNat ≤ 16777216 ∧ Q (.tup (rngL i (j - i).toNat)) M2) X) X
  | .dic0 => fun _ M Q _ => Q .dic0 M
  | .dmk a => fun δ M Q X => wpE a δ M (fun x M1 => dmkD x fun ks => Q (.dts ks) M1) X
  | .rev a => fun δ M Q X => wpE a δ M (fun x M1 => revD x fun z => Q z M1) X
  | .lstm a => fun δ M Q X => wpE a δ M (fun x M1 => asSeq M1 x fun xs => Q (.ref M1.length) (M1 ++ [.lst xs])) X
  | .revm a => fun δ M Q X => wpE a δ M (fun x M1 => asLst M1 x fun xs => Q (.ref M1.length) (M1 ++ [.lst xs.reverse])) X
  | .sset a => fun δ M Q X => wpE a δ M (fun x M1 => asLst M1 x fun xs => asInts xs fun is => is.length ≤ 60 ∧ ∀ js : List Int, js.Pairwise (· < ·) → (∀ k : Int, k ∈ js ↔ k ∈ is) → Q (.lst (js.map D.int)) M1) X
  | .lrep a b => fun δ M Q X => wpE a δ M (fun x M1 => wpE b δ M1 (fun y M2 => numL M2 x fun _ xs => asInt y fun k => 0 ≤ k ∧ k ≤ 1000000 ∧ xs.length * k.toNat ≤ 16777216 ∧ Q (.ref M2.length) (M2 ++ [.lst (List.replicate k.toNat xs).flatten])) X) X
  | .lenset a => fun δ M Q X => wpE a δ M (fun x M1 => (asLst M1 x fun xs => asInts xs fun is => is.Nodup ∧ is.length ≤ 4000 ∧ Q (.int (is.length : Nat)) M1) ∨ ∃ xs, seqD M1 x = some xs ∧ ∃ is, strsD xs = some is ∧ is.Nodup ∧ is.length ≤ 4000 ∧ Q (.int (is.length : Nat)) M1) X
  | .catl m a b => fun δ M Q X => wpE a δ M (fun x M1 => wpE b δ M1 (fun y M2 => numL M2 x fun _ xs => numL M2 y fun _ ys => xs.length + ys.length ≤ 16777216 ∧ if m = true then Q (.ref M2.length) (M2 ++ [.lst (xs ++ ys)]) else Q (.lst (xs ++ ys)) M2) X) X
  | .lenr a b c => fun δ M Q X => wpE a δ M (fun x M1 => wpE b δ M1 (fun y M2 => wpE c δ M2 (fun z M3 => asInt x fun i => asInt y fun j => asInt z fun l => ∃ n : Nat, RgC i j l n ∧ n ≤ 16777216 ∧ Q (.int (n : Int)) M3) X) X) X
  | .lst3 m a b c => fun δ M Q X => wpE a δ M (fun x M1 => wpE b δ M1 (fun y M2 => wpE c δ M2 (fun z M3 => asInt x fun i => asInt y fun j => asInt z fun l => ∃ n, RgC i j l n ∧ n ≤ 16777216 ∧ (if m = true then Q (.ref M3.length) (M3 ++ [.lst (rngC i l n)]) else Q (.lst (rngC i l n)) M3)) X) X) X
  | .fld a x => fun δ M Q X => wpE a δ M (fun d M1 => fldD Γ.cls.length x d fun v => Q v M1) X
  | .app a e => fun δ M Q X => wpE a δ M (fun x M1 => numL M1 x fun _ _ => wpE e δ M1 (fun y M2 => numL M2 x fun n xs => xs.length < 16777216 ∧ Q .non (M2.set n (.lst (xs ++ [y])))) X) X
  | .ext a e => fun δ M Q X => wpE a δ M (fun x M1 => numL M1 x fun _ _ => wpE e δ M1 (fun y M2 => numL M2 x fun n xs => numL M2 y fun _ ys => xs.length + ys.length ≤ 16777216 ∧ Q .non (M2.set n (.lst (xs ++ ys)))) X) X
  | .join a e => fun δ M Q X => wpE a δ M (fun x M1 => asStr x fun _ => wpE e δ M1 (fun y M2 => joinD M2 x y fun z => Q (.str z) M2) X) X
  | .cnt a e => fun δ M Q X => wpE a δ M (fun x M1 => asStr x fun _ => wpE e δ M1 (fun y M2 => cntD x y fun z => Q (.int z) M2) X) X
  | .hear k c e => fun δ M Q X => wpE e δ M (fun x M1 => Q (.tup [.non, x]) M1) (fun c' d M1 => c' < Γ.cls.length ∧ Γ.sub c' c = true ∧ Q (.tup [.exc c' d, .non]) M1)
  | .pop a => fun δ M Q X => wpE a δ M (fun x M1 => numL M1 x fun n xs => popD xs fun y ys => Q y (M1.set n (.lst ys))) X
  | .popi a i => fun δ M Q X => wpE a δ M (fun x M1 => numL M1 x fun _ _ => wpE i δ M1 (fun z M2 => numL M2 x fun n xs => asInt z fun j => popiD xs j fun y ys => Q y (M2.set n (.lst ys))) X) X
/-- a test -/
noncomputable def wpT : E → TTD
  | .and_ a b => fun δ M Q X => wpT a δ M (fun c M1 => if c = true then wpT b δ M1 Q X else Q false M1) X
  | .or_ a b => fun δ M Q X => wpT a δ M (fun c M1 => if c = true then Q true M1 else wpT b δ M1 Q X) X
  | .not_ a => fun δ M Q X => wpT a δ M (fun c M1 => Q (!c) M1) X
  | .cmp op a b => fun δ M Q X => wpE a δ M (fun x M1 => wpE b δ M1 (fun y M2 => cmpD op M2 x y fun t => Q t M2) X) X
  | .chain op op' a b c => fun δ M Q X => wpE a δ M (fun x M1 => wpE b δ M1 (fun y M2 => cmpD op M2 x y fun t => if t = true then wpE c δ M2 (fun z M3 => cmpD op' M3 y z fun u => Q u M3) X else Q false M2) X) X
  | .var i => fun δ M Q _ => slotD δ i fun d => asTru M d fun b => Q b M
  | .bl b => fun _ M Q _ => Q b M
  | .call k es => fun δ M Q X => wpEs es δ M (fun ds M1 => callD Γ.fn k ds M1 (fun d M2 => asTru M2 d fun b => Q b M2) X) X
  | .bi b es => fun δ M Q X => wpEs es δ M (fun ds M1 => biD Γ.rp b ds M1 fun d => asTru M1 d fun b => Q b M1) X
  | .isi a t => fun δ M Q X => wpE a δ M (fun x M1 => isiD Γ.cls.length t x M1 Γ.sub fun b => Q b M1) X
  | .idx a i => fun δ M Q X => wpE a δ M (fun x M1 => wpE i δ M1 (fun y M2 => idxD M2 x y fun d => asTru M2 d fun b => Q b M2) X) X
  | .attr a x => fun δ M Q X => wpE a δ M (fun d M1 => attrD Γ.ats M1 d x fun v => asTru M1 v fun b => Q b M1) X
  | .isin a c => fun δ M Q X => wpE a δ M (fun x M1 => isinD M1 x c fun b => Q b M1) X
  | .mcall k a es => fun δ M Q X => wpE a δ M (fun x M1 => insD M1 x fun _ c fs => ownD Γ.fn k .meth c (lookA fs (nameD Γ.fn k) = none ∧ wpEs es δ M1 (fun ds M2 => callD Γ.fn k (x :: ds) M2 (fun d M3 => asTru M3 d fun b => Q b M3) X) X)) X
  | .ife c a b => fun δ M Q X => wpT c δ M (fun t M1 => if t = true then wpT a δ M1 Q X else wpT b δ M1 Q X) X
  | _ => fun _ _ _ _ => False
/-- a comprehension's condition; none: nop -/
noncomputable def wpC : Op → TTD
  | .no => fun _ M Q _ => Q true M
  | .so e => wpT e
noncomputable def wpO : Op → Dst → Mem → (Option Int → Mem → Prop) → XD → Prop
  | .no => fun _ M Q _ => Q none M
  | .so e => fun δ M Q X => wpE e δ M (fun x M1 => asInt x fun i => Q (some i) M1) X
noncomputable def wpEs : Es → TAD
  | .nil => fun _ M Q _ => Q [] M
  | .cons e es => fun δ M Q X => wpE e δ M (fun x M1 => wpEs es δ M1 (fun xs M2 => Q (x :: xs) M2) X) X
  | .star e es => fun δ M Q X => wpE e δ M (fun x M1 => asSeq M1 x fun ys => wpEs es δ M1 (fun xs M2 => Q (ys ++ xs) M2) X) X
noncomputable def wpI : I → Dst → Mem → IK → XD → Prop
  | .seq e => fun δ M Q X => wpE e δ M (fun x M1 => asSeq M1 x fun xs => Q xs (stayD x xs) M1) X
  | .rng1 a => fun δ M Q X => wpE a δ M (fun x M1 => asInt x fun j => RgB j ∧ Q (rngL 0 j.toNat) (fun _ => True) M1) X
  | .rng2 a b => fun δ M Q X => wpE a δ M (fun x M1 => wpE b δ M1 (fun y M2 => asInt x fun i => asInt y fun j => RgB i ∧ RgB j ∧ Q (rngL i (j - i).toNat) (fun _ => True) M2) X) X
  | .rng3 a b c => fun δ M Q X => wpE a δ M (fun x M1 => wpE b δ M1 (fun y M2 => wpE c δ M2 (fun z M3 => asInt x fun i => asInt y fun j => asInt z fun l => ∃ n, RgC i j l n ∧ Q (rngC i l n) (fun _ => True) M3) X) X) X
  | .chr e => fun δ M Q X => wpE e δ M (fun x M1 => asStr x fun z => Q (chrsD z) (fun _ => True) M1) X
  | .enum a => fun δ M Q X => wpE a δ M (fun x M1 => asSeq M1 x fun xs => Q (enumL xs) (stayD x xs) M1) X
  | .zip a b => fun δ M Q X => wpE a δ M (fun x M1 => wpE b δ M1 (fun y M2 => asSeq M2 x fun xs => asSeq M2 y fun ys => (isTupD x = true → tupB y = true) ∧ Q (zipL xs ys) (fun M => stayD x xs M ∧ stayD y ys M) M2) X) X
end
mutual
noncomputable def wpS : S → TSD
  | .ex e => fun E δ M => wpE Γ e δ M (fun _ M1 => E.nx δ M1) (fun c d M1 => E.xc c d δ M1)
  | .asg t e => fun E δ M => wpE Γ e δ M (fun x M1 => bndD (bindT t x δ) fun δ' => E.nx δ' M1) (fun c d M1 => E.xc c d δ M1)
  | .asgl ts e => fun E δ M => wpE Γ e δ M (fun x M1 => numL M1 x fun _ xs => bndD (bindT.bindTs ts xs δ) fun δ' => E.nx δ' M1) (fun c d M1 => E.xc c d δ M1)
  | .asgc i e => fun E δ M => wpE Γ e δ M (fun x M1 => E.nx (δ.set i (some x)) M1) (fun c d M1 => E.xc c d δ M1)
  | .par i j a b => fun E δ M => wpEs Γ (.cons a (.cons b .nil)) δ M (fun ds M1 => twoD ds fun x y => E.nx ((δ.set i (some x)).set j (some y)) M1) (fun c d M1 => E.xc c d δ M1)
  | .par3 i j l a b c => fun E δ M => wpEs Γ (.cons a (.cons b (.cons c .nil))) δ M (fun ds M1 => threeD ds fun x y z => E.nx (((δ.set i (some x)).set j (some y)).set l (some z)) M1) (fun c d M1 => E.xc c d δ M1)
  | .sub2 o i p j e => fun E δ M => wpE Γ e δ M (fun v M1 => tupD v fun ds => twoD ds fun x y => wpE Γ o δ M1 (fun a M2 => wpE Γ i δ M2 (fun k M3 => putiD M3 a k x fun M4 => wpE Γ p δ M4 (fun b M5 => wpE Γ j δ M5 (fun l M6 => putiD M6 b l y fun M7 => E.nx δ M7) (fun c d M1 => E.xc c d δ M1)) (fun c d M1 => E.xc c d δ M1)) (fun c d M1 => E.xc c d δ M1)) (fun c d M1 => E.xc c d δ M1)) (fun c d M1 => E.xc c d δ M1)
  | .fldn o x j e => fun E δ M => wpE Γ e δ M (fun v M1 => tupD v fun ds => twoD ds fun u w => wpE Γ o δ M1 (fun y M2 => insD M2 y fun n c fs => (c, x) ∈ Γ.ats ∧ fs.length < 1000 ∧ E.nx (δ.set j (some w)) (M2.set n (.ins c (putA x u fs)))) (fun c d M1 => E.xc c d δ M1)) (fun c d M1 => E.xc c d δ M1)
  | .seti o i e => fun E δ M => wpE Γ e δ M (fun v M1 => wpE Γ o δ M1 (fun x M2 => wpE Γ i δ M2 (fun y M3 => putiD M3 x y v fun M4 => E.nx δ M4) (fun c d M1 => E.xc c d δ M1)) (fun c d M1 => E.xc c d δ M1)) (fun c d M1 => E.xc c d δ M1)
  | .sattr o x e => fun E δ M => wpE Γ e δ M (fun v M1 => wpE Γ o δ M1 (fun y M2 => insD M2 y fun n c fs => (c, x) ∈ Γ.ats ∧ fs.length < 1000 ∧ E.nx δ (M2.set n (.ins c (putA x v fs)))) (fun c d M1 => E.xc c d δ M1)) (fun c d M1 => E.xc c d δ M1)
  | .sattrs i xs e => fun E δ M => wpE Γ e δ M (fun v M1 => tupD v fun ds => slotD δ i fun y => insD M1 y fun n c fs => (∀ x ∈ xs, (c, x) ∈ Γ.ats) ∧ fs.length + xs.length < 1000 ∧ (match putsA xs ds fs with | some gs => E.nx δ (M1.set n (.ins c gs)) | none => False)) (fun c d M1 => E.xc c d δ M1)
  | .ret e => fun E δ M => wpE Γ e δ M E.rt (fun c d M1 => E.xc c d δ M1)
  | .retn => fun E _ M => E.rt .non M
  | .if_ c a b => fun E δ M => wpT Γ c δ M (fun t M1 => if t = true then wpSs a E δ M1 else wpSs b E δ M1) (fun c d M1 => E.xc c d δ M1)
  | .for_ t it b => fun E δ M => wpI Γ it δ M (fun xs stay M1 => forD (bindT t) (wpSs b) stay E xs δ M1) (fun c d M1 => E.xc c d δ M1)
  | .while_ c b => fun E δ M => ∃ n, whileN (wpT Γ c) (wpSs b) E n δ M
  | .rs c e => fun E δ M => wpE Γ e δ M (fun x M1 => E.xc c x δ M1) (fun c d M1 => E.xc c d δ M1)
  | .try_ c i b j => fun E δ M => wpSs b { E with xc := fun c' d δ' M' => c' < Γ.cls.length ∧ if Γ.sub c' c = true then E.nx ((δ'.set j (some (.exc c' d))).set i none) M' else E.xc c' d δ' M' } δ M
  | .pass => fun E δ M => E.nx δ M
  | .brk => fun E δ M => E.bk δ M
  | .cont => fun E δ M => E.ct δ M
noncomputable def wpSs : Ss → TSD
  | .nil => fun E δ M => E.nx δ M
  | .cons s ss => fun E δ M => wpS s { E with nx := wpSs ss E } δ M
end
end

theorem asInt.inv {x : D} {k : Int → Prop} (h : asInt x k) : ∃ i, x = .int i ∧ k i := by
  cases x <;> first | exact ⟨_, rfl, h⟩ | exact h.elim
theorem asBl.inv {x : D} {k : Bool → Prop} (h : asBl x k) : ∃ i, x = .bl i ∧ k i := by
  cases x <;> first | exact ⟨_, rfl, h⟩ | exact h.elim
theorem asTru.inv {M : Mem} {x : D} {k : Bool → Prop} (h : asTru M x k) : ∃ b, truD M x = some b ∧ k b := by
  unfold asTru at h
  split at h
  · exact ⟨_, by assumption, h⟩
  · exact h.elim
theorem asSeq.inv {M : Mem} {x : D} {k : List D → Prop} (h : asSeq M x k) : ∃ b, seqD M x = some b ∧ k b := by
  unfold asSeq at h
  split at h
  · exact ⟨_, by assumption, h⟩
  · exact h.elim
theorem asLst.inv {M : Mem} {x : D} {k : List D → Prop} (h : asLst M x k) : ∃ b, lstD M x = some b ∧ k b := by
  unfold asLst at h
  split at h
  · exact ⟨_, by assumption, h⟩
  · exact h.elim
theorem asInts.inv {xs : List D} {k : List Int → Prop} (h : asInts xs k) : ∃ b, intsD xs = some b ∧ k b := by
  unfold asInts at h
  split at h
  · exact ⟨_, by assumption, h⟩
  · exact h.elim
theorem popD.inv {xs : List D} {k : D → List D → Prop} (h : popD xs k) : ∃ y, xs.getLast? = some y ∧ k y xs.dropLast := by
  unfold popD at h
  split at h
  · exact ⟨_, by assumption, h⟩
  · exact h.elim
theorem twoD.inv {ds : List D} {k : D → D → Prop} (h : twoD ds k) : ∃ x y, ds = [x, y] ∧ k x y := by
  unfold twoD at h
  split at h
  · exact ⟨_, _, rfl, h⟩
  · exact h.elim
theorem oneD.inv {ds : List D} {k : D → Prop} (h : oneD ds k) : ∃ x, ds = [x] ∧ k x := by
  unfold oneD at h
  split at h
  · exact ⟨_, rfl, h⟩
  · exact h.elim
theorem threeD.inv {ds : List D} {k : D → D → D → Prop} (h : threeD ds k) : ∃ x y z, ds = [x, y, z] ∧ k x y z := by
  unfold threeD at h
  split at h
  · exact ⟨_, _, _, rfl, h⟩
  · exact h.elim
theorem slotD.inv {δ : List (Option D)} {i : Nat} {k : D → Prop} (h : slotD δ i k) : ∃ d, δ[i]? = some (some d) ∧ k d := by
  unfold slotD at h
  split at h
  · exact ⟨_, by assumption, h⟩
  · exact h.elim
theorem cstD.inv {l : List (Str × D)} {i : Nat} {k : D → Prop} (h : cstD l i k) : ∃ d, l[i]? = some d ∧ k d.2 := by
  unfold cstD at h
  split at h
  · exact ⟨_, by assumption, h⟩
  · exact h.elim
theorem numL.inv {M : Mem} {x : D} {k : Nat → List D → Prop} (h : numL M x k) : ∃ n xs, x = .ref n ∧ M[n]? = some (.lst xs) ∧ k n xs := by
  unfold numL at h
  split at h
  · split at h
    · exact ⟨_, _, rfl, by assumption, h⟩
    · exact h.elim
  · exact h.elim
theorem idxD.inv {M : Mem} {x y : D} {k : D → Prop} (h : idxD M x y k) : (∃ xs j d, y = .int j ∧ seqD M x = some xs ∧ atI xs j = some d ∧ k d) ∨ (∃ z j c, y = .int j ∧ x = .str z ∧ z.length ≤ 16777216 ∧ atI z.cps.toList j = some c ∧ k (.str ⟨#[c]⟩)) ∨ ∃ key n kvs d, keyD y = some key ∧ x = .ref n ∧ M[n]? = some (.dct kvs) ∧ valD kvs key = some d ∧ k d := by
  unfold idxD at h
  split at h
  · split at h
    · obtain ⟨h1, h2⟩ := h
      split at h2
      · exact .inr (.inl ⟨_, _, _, rfl, rfl, h1, by assumption, h2⟩)
      · exact h2.elim
    · split at h
      · split at h
        · exact .inl ⟨_, _, _, rfl, by assumption, by assumption, h⟩
        · exact h.elim
      · split at h
        · split at h
          · split at h
            · exact .inr (.inr ⟨_, _, _, _, rfl, rfl, by assumption, by assumption, h⟩)
            · exact h.elim
          · exact h.elim
        · exact h.elim
  · split at h
    · split at h
      · split at h
        · exact .inr (.inr ⟨_, _, _, _, rfl, rfl, by assumption, by assumption, h⟩)
        · exact h.elim
      · exact h.elim
    · exact h.elim
  · exact h.elim
theorem dctD.inv {M : Mem} {x : D} {k : Nat → List (Key × D) → Prop} (h : dctD M x k) : ∃ n kvs, x = .ref n ∧ M[n]? = some (.dct kvs) ∧ k n kvs := by
  unfold dctD at h
  split at h
  · split at h
    · exact ⟨_, _, rfl, by assumption, h⟩
    · exact h.elim
  · exact h.elim
theorem dgetD.inv {M : Mem} {x y z : D} {k : D → Prop} (h : dgetD M x y z k) : ∃ n kvs key, x = .ref n ∧ M[n]? = some (.dct kvs) ∧ keyD y = some key ∧ k ((valD kvs key).getD z) := by
  obtain ⟨n, kvs, e, hm, h⟩ := dctD.inv h
  split at h
  · exact ⟨n, kvs, _, e, hm, by assumption, h⟩
  · exact h.elim
theorem asStr.inv {x : D} {k : Str → Prop} (h : asStr x k) : ∃ i, x = .str i ∧ k i := by
  cases x <;> first | exact ⟨_, rfl, h⟩ | exact h.elim
theorem joinD.inv {M : Mem} {x y : D} {k : Str → Prop} (h : joinD M x y k) : ∃ a ys ss, x = .str a ∧ seqD M y = some ys ∧ strsD ys = some ss ∧ (ss.map (·.length)).sum + ss.length * a.length ≤ 16777216 ∧ k (Txt.join a ss) := by
  unfold joinD at h
  split at h
  · split at h
    · exact ⟨_, _, _, rfl, by assumption, by assumption, h.1, h.2⟩
    · exact h.elim
  · exact h.elim
theorem inL.inv {M : Mem} {x y : D} {k : Bool → Prop} (h : inL M x y k) : ∃ ys, seqD M y = some ys ∧ ((∃ a ss, x = .str a ∧ strsD ys = some ss ∧ k (decide (a ∈ ss))) ∨ (∃ i is, x = .int i ∧ intsD ys = some is ∧ k (decide (i ∈ is))) ∨ ∃ ds, x = .non ∧ pdM M y = some (.list ds) ∧ SeqAt.shaped (.list ds) = true ∧ k (ds.any fun z => PyData.eqv z .none)) := by
  unfold inL at h
  split at h
  · refine ⟨_, by assumption, ?_⟩
    split at h
    · split at h
      · exact .inl ⟨_, _, rfl, by assumption, h⟩
      · exact h.elim
    · split at h
      · exact .inr (.inl ⟨_, _, rfl, by assumption, h⟩)
      · exact h.elim
    · split at h
      · exact .inr (.inr ⟨_, rfl, by assumption, h.1, h.2⟩)
      · exact h.elim
    · exact h.elim
  · exact h.elim
theorem inD.inv {M : Mem} {x y : D} {k : Bool → Prop} (h : inD M x y k) : (∃ a b, x = .str a ∧ y = .str b ∧ k (!(Builtin.Str.occurrences b a 0 b.length 1).isEmpty)) ∨ (∃ n kvs key, y = .ref n ∧ M[n]? = some (.dct kvs) ∧ keyD x = some key ∧ k (valD kvs key).isSome) ∨ inL M x y k ∨ ∃ ks, y = .dts ks ∧ dtsIn x ks k := by
  unfold inD at h
  split at h
  · split at h
    · exact .inl ⟨_, _, rfl, rfl, h⟩
    · exact h.elim
  · split at h
    · split at h
      · exact .inr (.inl ⟨_, _, _, rfl, by assumption, by assumption, h⟩)
      · exact h.elim
    · exact .inr (.inr (.inl h))
  · exact .inr (.inr (.inr ⟨_, rfl, h⟩))
  · exact .inr (.inr (.inl h))
theorem insD.inv {M : Mem} {x : D} {k : Nat → Nat → List (Str × D) → Prop} (h : insD M x k) : ∃ n c fs, x = .ref n ∧ M[n]? = some (.ins c fs) ∧ k n c fs := by
  unfold insD at h
  split at h
  · split at h
    · exact ⟨_, _, _, rfl, by assumption, h⟩
    · exact h.elim
  · exact h.elim
theorem attrD.inv {ats : List (Nat × Str)} {M : Mem} {x : D} {f : Str} {k : D → Prop} (h : attrD ats M x f k) : ∃ n c fs d, x = .ref n ∧ M[n]? = some (.ins c fs) ∧ (c, f) ∈ ats ∧ fs.lookup f = some d ∧ k d := by
  obtain ⟨n, c, fs, e, hm, ha, h⟩ := insD.inv h
  split at h
  · exact ⟨n, c, fs, _, e, hm, ha, by assumption, h⟩
  · exact h.elim
theorem ownD.inv {l : List Fn} {k : Nat} {kd : MK} {c : Nat} {p : Prop} (h : ownD l k kd c p) : ∃ f m, l[k]? = some f ∧ f.own = some (c, kd, m) ∧ p := by
  unfold ownD at h
  split at h
  · rename_i f hf
    split at h
    · rename_i c' kd' m e
      obtain ⟨rfl, rfl, h⟩ := h
      exact ⟨_, _, hf, e, h⟩
    · exact h.elim
  · exact h.elim
theorem clsD.inv {l : List Fn} {k : Nat} {p : Nat → Prop} (h : clsD l k p) : ∃ f c m, l[k]? = some f ∧ f.own = some (c, .init, m) ∧ p c := by
  unfold clsD at h
  split at h
  · rename_i f hf
    split at h
    · rename_i c m e
      exact ⟨_, _, _, hf, e, h⟩
    · exact h.elim
  · exact h.elim
theorem nameD_of {l : List Fn} {k : Nat} {f : Fn} {c : Nat} {kd : MK} {m : Str} (h : l[k]? = some f) (e : f.own = some (c, kd, m)) : nameD l k = m := by
  unfold nameD
  rw [h]
  simp only [e]
theorem splitD.inv {x y : D} {k : List D → Prop} (h : splitD x y k) : ∃ a b, x = .str a ∧ y = .str b ∧ (b.length == 0) = false ∧ a.length + 2 ≤ 16777216 ∧ k ((Txt.split a b).map D.str) := by
  unfold splitD at h
  split at h
  · exact ⟨_, _, rfl, rfl, h⟩
  · exact h.elim
theorem tupD.inv {x : D} {k : List D → Prop} (h : tupD x k) : ∃ xs, x = .tup xs ∧ k xs := by
  unfold tupD at h
  split at h
  · exact ⟨_, rfl, h⟩
  · exact h.elim
theorem putiD.inv {M : Mem} {x y v : D} {k : Mem → Prop} (h : putiD M x y v k) : (∃ n xs i j, x = .ref n ∧ M[n]? = some (.lst xs) ∧ y = .int i ∧ ixN xs.length i = some j ∧ k (M.set n (.lst (xs.set j v)))) ∨
    ∃ n kvs key, x = .ref n ∧ M[n]? = some (.dct kvs) ∧ keyD y = some key ∧ kvs.length < 16777216 ∧ k (M.set n (.dct (putD kvs key v))) := by
  unfold putiD at h
  split at h
  · split at h
    · split at h
      · unfold setiD at h
        split at h
        · exact .inl ⟨_, _, _, _, rfl, by assumption, rfl, by assumption, h⟩
        · exact h.elim
      · exact h.elim
    · split at h
      · exact .inr ⟨_, _, _, rfl, by assumption, by assumption, h⟩
      · exact h.elim
    · exact h.elim
  · exact h.elim
theorem cntD.inv {x y : D} {k : Int → Prop} (h : cntD x y k) : ∃ a b, x = .str a ∧ y = .str b ∧ k (Txt.count a b) := by
  unfold cntD at h
  split at h
  · exact ⟨_, _, rfl, rfl, h⟩
  · exact h.elim
theorem callD.inv {l : List Fn} {k : Nat} {ds : List D} {M : Mem} {Q : DK} {X : XD} (h : callD l k ds M Q X) : ∃ f, l[k]? = some f ∧ ds.length = f.par.length ∧ f.sp ds M Q X := by
  unfold callD at h
  split at h
  · exact ⟨_, by assumption, h⟩
  · exact h.elim
theorem bndD.inv {o : Option (List (Option D))} {k : List (Option D) → Prop} (h : bndD o k) : ∃ δ, o = some δ ∧ k δ := by
  unfold bndD at h
  split at h
  · exact ⟨_, rfl, h⟩
  · exact h.elim
theorem setiD.inv {xs : List D} {i : Int} {k : Nat → Prop} (h : setiD xs i k) : ∃ j, ixN xs.length i = some j ∧ k j := by
  unfold setiD at h
  split at h
  · exact ⟨_, by assumption, h⟩
  · exact h.elim
end AA
/-! AA2d: tables of data and of values; operators on dicts. -/
namespace AA
open PySem PySem.Spec L2
open PyProof.Rows hiding St
section
variable {G : Gm} {ρ : List Addr} {H : Hp} {α : List Addr}
theorem val_rel (key : Key) : ∀ {kvs : List (Key × D)} {ws : List (Key × V)}, kvs.map (·.1) = ws.map (·.1) → RDs G ρ H α (kvs.map (·.2)) (ws.map (·.2)) →
    (valD kvs key = none ∧ valV ws key = none) ∨ ∃ d v, valD kvs key = some d ∧ valV ws key = some v ∧ RD G ρ H α d v
  | [], [], _, _ => .inl ⟨rfl, rfl⟩
  | [], _ :: _, h, _ => by simp at h
  | _ :: _, [], h, _ => by simp at h
  | (k, d) :: kvs, (k', v) :: ws, h, r => by
    simp only [List.map_cons, List.cons.injEq] at h
    obtain ⟨h1, h2⟩ := h
    obtain ⟨v', vs', e, r1, rs⟩ := r
    simp only [List.map_cons, List.cons.injEq] at e
    obtain ⟨e1, e2⟩ := e
    subst e1 e2
    subst h1
    by_cases z : k = key
    · exact .inr ⟨d, v, by simp [valD, z], by rw [valV_pos (p := (k, v)) z], r1⟩
    · have i := val_rel key h2 rs
      have a1 : valD ((k, d) :: kvs) key = valD kvs key := by simp [valD, z]
      have a2 : valV ((k, v) :: ws) key = valV ws key := valV_neg (p := (k, v)) z
      rw [a1, a2]
      exact i
theorem val_some {key : Key} {kvs : List (Key × D)} {ws : List (Key × V)} (h : kvs.map (·.1) = ws.map (·.1)) (r : RDs G ρ H α (kvs.map (·.2)) (ws.map (·.2))) : (valD kvs key).isSome = (valV ws key).isSome := by
  rcases val_rel key h r with ⟨a, b⟩ | ⟨d, v, a, b, _⟩
  · rw [a, b]; rfl
  · rw [a, b]; rfl
theorem put_any (key : Key) {kvs : List (Key × D)} {ws : List (Key × V)} (h : kvs.map (·.1) = ws.map (·.1)) : (kvs.any fun kv => decide (kv.1 = key)) = (ws.any fun kv => decide (kv.1 = key)) := by
  have e1 : (kvs.any fun kv => decide (kv.1 = key)) = (kvs.map (·.1)).any fun k => decide (k = key) := by rw [List.any_map]; rfl
  have e2 : (ws.any fun kv => decide (kv.1 = key)) = (ws.map (·.1)).any fun k => decide (k = key) := by rw [List.any_map]; rfl
  rw [e1, e2, h]
theorem put_map {key : Key} {d : D} {v : V} (q : RD G ρ H α d v) : ∀ {kvs : List (Key × D)} {ws : List (Key × V)}, kvs.map (·.1) = ws.map (·.1) → RDs G ρ H α (kvs.map (·.2)) (ws.map (·.2)) →
    (kvs.map fun kv => if kv.1 = key then (kv.1, d) else kv).map (·.1) = (ws.map fun kv => if kv.1 = key then (kv.1, v) else kv).map (·.1) ∧
    RDs G ρ H α ((kvs.map fun kv => if kv.1 = key then (kv.1, d) else kv).map (·.2)) ((ws.map fun kv => if kv.1 = key then (kv.1, v) else kv).map (·.2))
  | [], [], _, _ => ⟨rfl, rfl⟩
  | [], _ :: _, h, _ => by simp at h
  | _ :: _, [], h, _ => by simp at h
  | (k, e) :: kvs, (k', u) :: ws, h, r => by
    simp only [List.map_cons, List.cons.injEq] at h
    obtain ⟨h1, h2⟩ := h
    obtain ⟨v', vs', e0, r1, rs⟩ := r
    simp only [List.map_cons, List.cons.injEq] at e0
    obtain ⟨e1, e2⟩ := e0
    subst e1 e2
    subst h1
    obtain ⟨i1, i2⟩ := put_map q h2 rs
    rw [List.map_cons, List.map_cons, List.map_cons, List.map_cons, List.map_cons, List.map_cons, i1]
    by_cases z : k = key
    · rw [if_pos z, if_pos z]; exact ⟨rfl, RDs.cons q i2⟩
    · rw [if_neg z, if_neg z]; exact ⟨rfl, RDs.cons r1 i2⟩
theorem put_rel {key : Key} {d : D} {v : V} {kvs : List (Key × D)} {ws : List (Key × V)} (h : kvs.map (·.1) = ws.map (·.1)) (r : RDs G ρ H α (kvs.map (·.2)) (ws.map (·.2))) (q : RD G ρ H α d v) :
    (putD kvs key d).map (·.1) = (putK ws key v).map (·.1) ∧ RDs G ρ H α ((putD kvs key d).map (·.2)) ((putK ws key v).map (·.2)) := by
  unfold putD putK
  rw [put_any key h]
  by_cases z : (ws.any fun kv => decide (kv.1 = key)) = true
  · rw [if_pos z, if_pos z]
    exact put_map q h r
  · rw [if_neg z, if_neg z, List.map_append, List.map_append, List.map_append, List.map_append, h]
    exact ⟨rfl, r.append (RDs.cons q RDs.nil)⟩
theorem look_rel (x : Str) : ∀ {fs : List (Str × D)} {ws : List (Str × V)}, fs.map (·.1) = ws.map (·.1) → RDs G ρ H α (fs.map (·.2)) (ws.map (·.2)) →
    (fs.lookup x = none ∧ ws.lookup x = none) ∨ ∃ d v, fs.lookup x = some d ∧ ws.lookup x = some v ∧ RD G ρ H α d v
  | [], [], _, _ => .inl ⟨rfl, rfl⟩
  | [], _ :: _, h, _ => by simp at h
  | _ :: _, [], h, _ => by simp at h
  | (k, d) :: fs, (k', v) :: ws, h, r => by
    simp only [List.map_cons, List.cons.injEq] at h
    obtain ⟨h1, h2⟩ := h
    obtain ⟨v', vs', e, r1, rs⟩ := r
    simp only [List.map_cons, List.cons.injEq] at e
    obtain ⟨e1, e2⟩ := e
    subst e1 e2
    subst h1
    rw [List.lookup_cons, List.lookup_cons]
    cases z : (x == k) with
    | true => exact .inr ⟨d, v, rfl, rfl, r1⟩
    | false => exact look_rel x h2 rs
theorem putA_rel {x : Str} {d : D} {v : V} (q : RD G ρ H α d v) : ∀ {fs : List (Str × D)} {ws : List (Str × V)}, fs.map (·.1) = ws.map (·.1) → RDs G ρ H α (fs.map (·.2)) (ws.map (·.2)) →
    (putA x d fs).map (·.1) = (putF x v ws).map (·.1) ∧ RDs G ρ H α ((putA x d fs).map (·.2)) ((putF x v ws).map (·.2))
  | [], [], _, _ => ⟨rfl, RDs.cons q RDs.nil⟩
  | [], _ :: _, h, _ => by simp at h
  | _ :: _, [], h, _ => by simp at h
  | (k, e) :: fs, (k', u) :: ws, h, r => by
    simp only [List.map_cons, List.cons.injEq] at h
    obtain ⟨h1, h2⟩ := h
    obtain ⟨v', vs', e0, r1, rs⟩ := r
    simp only [List.map_cons, List.cons.injEq] at e0
    obtain ⟨e1, e2⟩ := e0
    subst e1 e2
    subst h1
    obtain ⟨i1, i2⟩ := putA_rel (x := x) q h2 rs
    rw [show putA x d ((k, e) :: fs) = (if k = x then (k, d) :: fs else (k, e) :: putA x d fs) from rfl, show putF x v ((k, u) :: ws) = (if k = x then (k, v) :: ws else (k, u) :: putF x v ws) from rfl]
    by_cases z : k = x
    · rw [if_pos z, if_pos z, List.map_cons, List.map_cons, List.map_cons, List.map_cons, h2]
      exact ⟨rfl, RDs.cons q rs⟩
    · rw [if_neg z, if_neg z, List.map_cons, List.map_cons, List.map_cons, List.map_cons, i1]
      exact ⟨rfl, RDs.cons r1 i2⟩
theorem len_rel {κ β γ : Type} {fs : List (κ × β)} {ws : List (κ × γ)} (h : fs.map (·.1) = ws.map (·.1)) : fs.length = ws.length := by
  have := congrArg List.length h
  simpa using this
theorem keyD_rel {x : D} {key : Key} {v : V} (h : keyD x = some key) (r : RD G ρ H α x v) : v = kV key := by
  cases x <;> simp [keyD] at h
  · subst h; exact r
  · subst h; exact r
theorem keys_rds : ∀ (ks : List Key), RDs G ρ H α (ks.map keyV) (ks.map kV)
  | [] => rfl
  | .inl i :: ks => RDs.cons rfl (keys_rds ks)
  | .inr i :: ks => RDs.cons rfl (keys_rds ks)
end
section
variable {X : Cx}
theorem op_inDic (hu : X.A.units + 64 < cLine) : OpR X (compareOp .In) (fun x y H Q => ∃ a kvs key, y = .ref a ∧ H a = some (.dK kvs) ∧ x = kV key ∧ Q (.bl (valV kvs key).isSome) H) := by
  intro pins s σ H x y v u Q I rx ry h
  obtain ⟨a, kvs, key, e1, e2, e3, q⟩ := h
  subst e1 e3
  cases ry
  exact d_in (Nat.lt_of_le_of_lt (Nat.add_le_add_left (by decide) _) hu) I (DGet.k e2) rx fun s' I' => ⟨.bl _, H, I', rfl, q⟩
theorem op_notInDic (hu : X.A.units + 64 < cLine) : OpR X (compareOp .NotIn) (fun x y H Q => ∃ a kvs key, y = .ref a ∧ H a = some (.dK kvs) ∧ x = kV key ∧ Q (.bl (!(valV kvs key).isSome)) H) := by
  intro pins s σ H x y v u Q I rx ry h
  obtain ⟨a, kvs, key, e1, e2, e3, q⟩ := h
  subst e1 e3
  cases ry
  exact d_notIn (Nat.lt_of_le_of_lt (Nat.add_le_add_left (by decide) _) hu) I (DGet.k e2) rx fun s' I' => ⟨.bl _, H, I', rfl, q⟩
noncomputable def rInN (K : PySem.W.Frag) (neg : Bool) : R2 := fun x y H Q => ∃ ds, x = .non ∧ Dp K H y (.list ds) ∧ SeqAt.shaped (.list ds) = true ∧ Q (.bl (if neg then !(ds.any fun z => PyData.eqv z .none) else ds.any fun z => PyData.eqv z .none)) H
theorem room_non {ds : List PyData} {n : Nat} (hu : n + 64 < cLine) : n + 1 + min (PyData.depthAll ds) (PyData.depth .none) < cLine := by
  have : PyData.depth .none ≤ 1 := by simp [PyData.depth]
  have := Nat.min_le_right (PyData.depthAll ds) (PyData.depth .none)
  omega
theorem op_inNon (hu : X.A.units + 64 < cLine) : OpR X (compareOp .In) (rInN X.K false) := by
  intro pins s σ H x y v u Q I rx ry h
  obtain ⟨ds, rfl, he, se, q⟩ := h
  obtain ⟨as, r1⟩ := Dp.reads I .none .non v .non rx
  obtain ⟨bs, r2⟩ := Dp.reads I (.list ds) y u he ry
  exact SeqAt.in_list_reads r2 r1 (SeqAt.canLay_of_shaped se) (by decide) (room_non hu) ⟨.bl _, H, I, rfl, q⟩
theorem op_notInNon (hu : X.A.units + 64 < cLine) : OpR X (compareOp .NotIn) (rInN X.K true) := by
  intro pins s σ H x y v u Q I rx ry h
  obtain ⟨ds, rfl, he, se, q⟩ := h
  obtain ⟨as, r1⟩ := Dp.reads I .none .non v .non rx
  obtain ⟨bs, r2⟩ := Dp.reads I (.list ds) y u he ry
  exact SeqAt.notIn_list_reads r2 r1 (SeqAt.canLay_of_shaped se) (by decide) (room_non hu) ⟨.bl _, H, I, rfl, q⟩
noncomputable def rDic0 (neg : Bool) : R2 := fun x y H Q => ∃ a b kvs, x = .ref a ∧ y = .ref b ∧ H a = some (.dK kvs) ∧ Rd H b (.dK []) ∧ Q (.bl (if neg then !kvs.isEmpty else kvs.isEmpty)) H
theorem empty_len {κ β : Type} : ∀ l : List (κ × β), (l.length == 0) = l.isEmpty
  | [] => rfl
  | _ :: _ => rfl
theorem op_eqDic (hu : X.A.units + 64 < cLine) : OpR X (compareOp .Eq) (rDic0 false) := by
  intro pins s σ H x y v u Q I rx ry h
  obtain ⟨a, b, kvs, rfl, rfl, e1, e2, q⟩ := h
  cases rx; cases ry
  obtain ⟨z, hd, vs, rel, dd⟩ := dk_rd I.hok (.inl e1)
  obtain ⟨z2, hd2, vs2, rel2, dd2⟩ := dk_rd I.hok e2
  have l2 : vs2 = [] := List.eq_nil_of_length_eq_zero (by rw [← rel2.length]; rfl)
  subst l2
  have l1 : vs.length = kvs.length := rel.length.symm
  refine PySem.W.keq_eq (r := true) hd hd2 dd dd2 (by omega) (fun e => ?_) ⟨.bl _, H, I, rfl, ?_⟩
  · have : vs = [] := List.eq_nil_of_length_eq_zero e
    subst this
    exact .nil
  · rw [l1, Bool.and_true, show ((kvs.length == ([] : List (Key × Value)).length)) = kvs.isEmpty from empty_len kvs]
    exact q
theorem op_neDic (hu : X.A.units + 64 < cLine) : OpR X (compareOp .NotEq) (rDic0 true) := by
  intro pins s σ H x y v u Q I rx ry h
  obtain ⟨a, b, kvs, rfl, rfl, e1, e2, q⟩ := h
  cases rx; cases ry
  obtain ⟨z, hd, vs, rel, dd⟩ := dk_rd I.hok (.inl e1)
  obtain ⟨z2, hd2, vs2, rel2, dd2⟩ := dk_rd I.hok e2
  have l2 : vs2 = [] := List.eq_nil_of_length_eq_zero (by rw [← rel2.length]; rfl)
  subst l2
  have l1 : vs.length = kvs.length := rel.length.symm
  refine PySem.W.keq_ne (r := true) hd hd2 dd dd2 (by omega) (fun e => ?_) ⟨.bl _, H, I, rfl, ?_⟩
  · have : vs = [] := List.eq_nil_of_length_eq_zero e
    subst this
    exact .nil
  · rw [l1, Bool.and_true, show ((kvs.length == ([] : List (Key × Value)).length)) = kvs.isEmpty from empty_len kvs]
    exact q
end
end AA
/-! AA2e: dicts whose keys are tuples of whole numbers: made of pairs, in, len. -/
namespace AA
open PySem PySem.Spec L2
open PyProof.Rows hiding St
section
variable {X : Cx} {pins : List (Addr × Obj)} {σ : L2.St} {H : Hp} {s : Shared}
/-- the keys stand -/
noncomputable def KeysAt (K : PySem.W.Frag) (H : Hp) (L : List (List Int × Addr × Value)) : Prop := ∀ p ∈ L, SqT K H p.2.1 (p.1.map V.int)
theorem dtE_eq {P : Program} {w : World} (L : List (List Int × Addr × Value)) : L.map dtE = L.map (entryOfKey (tupleKind (intKind P w))) := rfl
theorem dt_at {a : Addr} {L : List (List Int × Addr × Value)} (I : Inv X pins σ H s) (h : Rd H a (DtO a L)) (hk : KeysAt X.K H L) :
    (a == sysModules) = false ∧ L.length ≤ sizeLine ∧ s.heap.DictOfH (tupleKind (intKind X.prog X.w)) a L := by
  have ok : ObjOk X.prog X.w H s.heap a (DtO a L) := rd_of I.hok h
  have T : DtT s.heap a L := ok.1
  obtain ⟨o, es, ep, h1, h2, h3, h4⟩ := T.ex
  exact ⟨T.lo, T.sz, o, es, ep, h1, h2, h3, h4, fun p hp => I.isT (hk p hp), T.nd⟩
theorem atKey_mem (k : List Int) : ∀ L : List (List Int × Addr × Value), (atKey L k).isSome = decide (k ∈ L.map (·.1))
  | [] => by simp [atKey]
  | p :: L => by
    have ih := atKey_mem k L
    by_cases e : p.1 = k
    · have b : atKey (p :: L) k = some p.2 := by simp [atKey, List.find?_cons, e]
      rw [b]
      simp [e]
    · have b : atKey (p :: L) k = atKey L k := by simp [atKey, List.find?_cons, e]
      have e' : ¬ k = p.1 := fun z => e z.symm
      rw [b, ih, List.map_cons]
      simp only [List.mem_cons, e', false_or]
/-- a tuple of whole numbers in such a dict -/
noncomputable def rInT (K : PySem.W.Frag) (neg : Bool) : R2 := fun x y H Q => ∃ (a t : Addr) (L : List (List Int × Addr × Value)) (ns : List Int), x = .ref t ∧ y = .ref a ∧ Rd H a (DtO a L) ∧ KeysAt K H L ∧ SqT K H t (ns.map V.int) ∧
  Q (.bl (if neg then !decide (ns ∈ L.map (·.1)) else decide (ns ∈ L.map (·.1)))) H
theorem op_inT (hu : X.A.units + 64 < cLine) : OpR X (compareOp .In) (rInT X.K false) := by
  intro pins s σ H x y v u Q I rx ry h
  obtain ⟨a, t, L, ns, rfl, rfl, ha, hk, ht, q⟩ := h
  cases (show v = Value.ref t from rx)
  cases (show u = Value.ref a from ry)
  obtain ⟨lo, sz, hd⟩ := dt_at I ha hk
  refine wpAny_in_heap (tupleKind_room_in1 (by omega)) (I.isT ht) lo hd ?_
  rw [atKey_mem]
  exact ⟨.bl _, H, I.tok _, rfl, q⟩
theorem op_notInT (hu : X.A.units + 64 < cLine) : OpR X (compareOp .NotIn) (rInT X.K true) := by
  intro pins s σ H x y v u Q I rx ry h
  obtain ⟨a, t, L, ns, rfl, rfl, ha, hk, ht, q⟩ := h
  cases (show v = Value.ref t from rx)
  cases (show u = Value.ref a from ry)
  obtain ⟨lo, sz, hd⟩ := dt_at I ha hk
  refine wpAny_notIn_heap (tupleKind_room_in1 (by omega)) (I.isT ht) lo hd ?_
  rw [atKey_mem]
  exact ⟨.bl _, H, I.tok _, rfl, q⟩
noncomputable def rLenDt (K : PySem.W.Frag) : List V → Hp → VK → Prop := fun xs H Q => ∃ (a : Addr) (L : List (List Int × Addr × Value)), xs = [.ref a] ∧ Rd H a (DtO a L) ∧ KeysAt K H L ∧ Q (.int ((L.length : Nat) : Int)) H
theorem call_lenDt : CallR X (.builtin "len") (rLenDt X.K) := by
  intro pins s σ H xs us Q I r h
  obtain ⟨a, L, rfl, ha, hk, q⟩ := h
  obtain ⟨u, rfl, rx⟩ := vals1 r
  obtain rfl : u = .ref a := rx
  obtain ⟨lo, sz, hd⟩ := dt_at I ha hk
  refine call_len_dictH lo hd (by rw [sizeLine_eq] at sz; omega) ?_
  exact ⟨.int ((L.length : Nat) : Int), H, I.tok _, ⟨_, rfl⟩, q⟩
/-! ### made of pairs -/
/-- a pair: where it stands, its key, where this stands, the other part -/
noncomputable abbrev Pr : Type := Addr × List Int × Addr × V
noncomputable def rDmk (K : PySem.W.Frag) : List V → Hp → VK → Prop := fun xs H Q => ∃ (l : Addr) (ps : List Pr), xs = [.ref l] ∧ SqL K H l (ps.map fun p => V.ref p.1) ∧ ps.length ≤ 16777216 ∧
  (∀ p ∈ ps, SqT K H p.1 [V.ref p.2.2.1, p.2.2.2] ∧ SqT K H p.2.2.1 (p.2.1.map V.int)) ∧
  ∀ (a : Addr) (L : List (List Int × Addr × Value)), H a = none → L.map (·.1) = onceK [] (ps.map fun p => p.2.1) → (∀ p ∈ L, ∃ q ∈ ps, p.1 = q.2.1 ∧ p.2.1 = q.2.2.1) → Q (.ref a) (upd H a (DtO a L))
theorem keys_stored (k : List Int) (b : Addr) (v : Value) (acc : List (List Int × Addr × Value)) : (storedH acc k b v).map (·.1) = if k ∈ acc.map (·.1) then acc.map (·.1) else acc.map (·.1) ++ [k] := by
  unfold storedH
  by_cases h : k ∈ acc.map (·.1)
  · rw [if_pos h, if_pos (by rw [atKey_mem, decide_eq_true h])]
    rw [List.map_map]
    refine List.map_congr_left fun x _ => ?_
    show (putAt k v x).1 = x.1
    unfold putAt
    split <;> rfl
  · rw [if_neg h, if_neg (by rw [atKey_mem, decide_eq_false h]; exact Bool.false_ne_true), List.map_append]
    rfl
theorem keys_storedAll : ∀ (ps acc : List (List Int × Addr × Value)), (storedAllH acc ps).map (·.1) = onceK (acc.map (·.1)) (ps.map (·.1))
  | [], acc => rfl
  | p :: ps, acc => by
    show (storedAllH (storedH acc p.1 p.2.1 p.2.2) ps).map (·.1) = onceK (if p.1 ∈ acc.map (·.1) then acc.map (·.1) else acc.map (·.1) ++ [p.1]) (ps.map (·.1))
    rw [keys_storedAll ps, keys_stored]
theorem mem_storedAll : ∀ (ps acc : List (List Int × Addr × Value)) (x : List Int × Addr × Value), x ∈ storedAllH acc ps → ∃ y ∈ acc ++ ps, x.1 = y.1 ∧ x.2.1 = y.2.1
  | [], acc, x, h => ⟨x, by rw [List.append_nil]; exact h, rfl, rfl⟩
  | p :: ps, acc, x, h => by
    obtain ⟨y, hy, e1, e2⟩ := mem_storedAll ps (storedH acc p.1 p.2.1 p.2.2) x h
    rcases List.mem_append.mp hy with hy | hy
    · rcases mem_storedH hy with ⟨z, hz, f1, f2⟩ | ⟨f1, f2⟩
      · exact ⟨z, List.mem_append_left _ hz, e1.trans f1, e2.trans f2⟩
      · exact ⟨p, List.mem_append_right _ List.mem_cons_self, e1.trans f1, e2.trans f2⟩
    · exact ⟨y, List.mem_append_right _ (List.mem_cons_of_mem _ hy), e1, e2⟩
theorem len_stored (k : List Int) (b : Addr) (v : Value) (acc : List (List Int × Addr × Value)) : (storedH acc k b v).length ≤ acc.length + 1 := by
  unfold storedH
  split
  · rw [List.length_map]; omega
  · rw [List.length_append]; simp
theorem len_storedAll : ∀ (ps acc : List (List Int × Addr × Value)), (storedAllH acc ps).length ≤ acc.length + ps.length
  | [], acc => Nat.le_refl _
  | p :: ps, acc => by
    have h1 := len_storedAll ps (storedH acc p.1 p.2.1 p.2.2)
    have h2 := len_stored p.1 p.2.1 p.2.2 acc
    show (storedAllH (storedH acc p.1 p.2.1 p.2.2) ps).length ≤ _
    rw [List.length_cons]
    omega
/-- the pairs, by what stands in the heap -/
theorem prs_raw (I : Inv X pins σ H s) : ∀ (ps : List Pr), (∀ p ∈ ps, SqT X.K H p.1 [V.ref p.2.2.1, p.2.2.2] ∧ SqT X.K H p.2.2.1 (p.2.1.map V.int)) →
    ∃ rs : List (List Int × Addr × Value), rs.map (fun r => (r.1, r.2.1)) = ps.map (fun p => (p.2.1, p.2.2.1)) ∧ ∀ (j : Nat) (p : Pr) (r : List Int × Addr × Value), ps[j]? = some p → rs[j]? = some r → s.heap.IsTuple p.1 #[.ref r.2.1, r.2.2]
  | [], _ => ⟨[], rfl, fun j p r h => by simp at h⟩
  | p :: ps, h => by
    obtain ⟨rs, e, q⟩ := prs_raw I ps fun x hx => h x (List.mem_cons_of_mem _ hx)
    obtain ⟨t1, _⟩ := h p List.mem_cons_self
    obtain ⟨its, r, pl, _⟩ := I.tuple t1
    obtain ⟨u1, u2, rfl, r1, r2⟩ := vals2 r
    obtain rfl : u1 = Value.ref p.2.2.1 := r1
    refine ⟨(p.2.1, p.2.2.1, u2) :: rs, by simp [e], fun j x y hx hy => ?_⟩
    cases j with
    | zero =>
      cases hx
      cases hy
      exact pl
    | succ j => exact q j x y hx hy
theorem call_dmk (hc : X.calm = true) (hu : X.A.units + 64 < cLine) : CallR X (.type "dict") (rDmk X.K) := by
  intro pins s σ H xs us Q I r h
  obtain ⟨l, ps, rfl, hl, hn, hp, q⟩ := h
  rw [Vals.ref1 r]
  obtain ⟨its, rv, pl, hz⟩ := I.list hl
  obtain ⟨rs, er, hr⟩ := prs_raw I ps hp
  have hlen : rs.length = ps.length := by have := congrArg List.length er; simpa using this
  have hits : its = ps.map fun p => Value.ref p.1 := by
    have go : ∀ (qs : List Pr) (us : List Value), Vals (qs.map fun p => V.ref p.1) us → us = qs.map fun p => Value.ref p.1 := by
      intro qs
      induction qs with
      | nil => intro us r; cases r; rfl
      | cons p qs ih =>
        intro us r
        cases r with
        | cons h t =>
          cases h
          rw [ih _ t]
          rfl
    exact go ps its rv
  have hi : its.length = ps.length := by rw [hits, List.length_map]
  have at_ : ∀ (j : Nat) (rr : List Int × Addr × Value), rs[j]? = some rr → ∃ p : Pr, ps[j]? = some p ∧ rr.1 = p.2.1 ∧ rr.2.1 = p.2.2.1 := by
    intro j rr hj
    have lt : j < ps.length := by rw [← hlen]; exact (List.getElem?_eq_some_iff.mp hj).1
    have e := congrArg (fun l => l[j]?) er
    simp only [List.getElem?_map, hj, List.getElem?_eq_getElem lt, Option.map_some, Option.some.injEq, Prod.mk.injEq] at e
    exact ⟨ps[j], List.getElem?_eq_getElem lt, e.1, e.2⟩
  have isT : ∀ x ∈ rs, IsT X.prog X.w s.heap x.1 x.2.1 := fun x hx => by
    obtain ⟨j, hj, e⟩ := List.getElem_of_mem hx
    obtain ⟨p, h1, h2, h3⟩ := at_ j x (by rw [List.getElem?_eq_getElem hj, e])
    rw [h2, h3]
    exact I.isT (hp p (List.mem_of_getElem? h1)).2
  let Ts : Nat → Addr := fun j => ((ps[j]?).map fun p => p.1).getD 0
  let kv : List (Value × Value) := rs.map fun r => (.ref r.2.1, r.2.2)
  have okA : PlainSeq "list" s.heap l its.toArray ∧ PairItems s.heap its.toArray Ts kv := by
    refine ⟨pl, by show its.toArray.size = kv.length; rw [List.size_toArray, List.length_map, hlen, hi], fun j k v hj => ?_⟩
    obtain ⟨rr, hrr, e⟩ : ∃ rr, rs[j]? = some rr ∧ (Value.ref rr.2.1, rr.2.2) = (k, v) := by
      have : kv[j]? = (rs[j]?).map fun r => (Value.ref r.2.1, r.2.2) := List.getElem?_map ..
      rw [this] at hj
      exact Option.map_eq_some_iff.mp hj
    cases e
    obtain ⟨p, h1, h2, h3⟩ := at_ j rr hrr
    have eT : Ts j = p.1 := by show ((ps[j]?).map fun p => p.1).getD 0 = _; rw [h1]; rfl
    rw [eT]
    refine ⟨?_, .inl (hr j p rr h1 hrr)⟩
    rw [List.getElem?_toArray, hits, List.getElem?_map, h1]
    rfl
  have hnone : H s.heap.objs.size = none := I.hok.fresh (Nat.le_refl _)
  refine call_dict_pairsH (knd := tupleKind (intKind X.prog X.w)) (ps := rs) (PairArg.list l its.toArray Ts kv) (I.ok.hd hc) (show X.A.in1.in1.units < cLine from by simp only [Around.in1]; omega) okA ⟨by rw [List.length_map], fun i key v hv => ?_⟩ (fun h' hk x hx => ?_) (by rw [sizeLine_eq, List.length_map, hlen]; omega) fun h' tk hd hk => ?_
  · have hv' : kv[i]? = some (key, v) := hv
    have : kv[i]? = (rs[i]?).map fun r => (Value.ref r.2.1, r.2.2) := List.getElem?_map ..
    rw [this] at hv'
    obtain ⟨rr, hrr, e⟩ := Option.map_eq_some_iff.mp hv'
    cases e
    exact ⟨rr.1, rr.2.1, hrr, rfl⟩
  · exact isT_keep (isT x hx) fun c o e => hk c o (Nat.ne_of_lt (Heap.lt_size e)) (by simp) e
  · obtain ⟨o, es, ep, h1, h2, h3, h4, h5, h6⟩ := hd
    have hT : DtT h' s.heap.objs.size (storedAllH [] rs) := ⟨beq_eq_false_iff_ne.mpr (Ne.symm (Nat.ne_of_lt I.big)), by have := len_storedAll rs []; rw [sizeLine_eq]; simp at this; omega, ⟨o, es, ep, h1, h2, h3, h4⟩, h6⟩
    have ek : rs.map (·.1) = ps.map fun p => p.2.1 := by
      have := congrArg (List.map Prod.fst) er
      simpa [List.map_map, Function.comp_def] using this
    refine ⟨.ref s.heap.objs.size, upd H s.heap.objs.size (DtO s.heap.objs.size (storedAllH [] rs)), I.laid (t' := tk) (fun b o e => hk b o (by simp) e) (Nat.le_refl _) ⟨hT, ⟨o, h1⟩, fun g1 g2 p k => ?_⟩, rfl, q _ _ hnone (by rw [keys_storedAll, ek]; rfl) fun p hp => ?_⟩
    · obtain ⟨o', es', ep', i1, i2⟩ := DtT.ex p
      exact ⟨p.lo, p.sz, ⟨o', es', ep', k o' i1, i2⟩, p.nd⟩
    · obtain ⟨y, hy, e1, e2⟩ := mem_storedAll rs [] p hp
      rw [List.nil_append] at hy
      obtain ⟨j, hj, e⟩ := List.getElem_of_mem hy
      obtain ⟨x, i1, i2, i3⟩ := at_ j y (by rw [List.getElem?_eq_getElem hj, e])
      exact ⟨x, List.mem_of_getElem? i1, e1.trans i2, e2.trans i3⟩
end
end AA
/-! AA2t: tuple(d), d[k], int(text). -/
namespace AA
open PySem PySem.Spec L2 PySem.W
open PyProof.Rows hiding St
section
variable {prog : Program} {w : World} {A : Around} {E : Value → Shared → Prop} {s : Shared} {T : String} {r d : Addr} {n : Nat} {P : Nat → Value → Prop} {OK : Heap → Prop}
theorem collect_kdl {Q : List Value → Shared → Prop} (K : KdlSrc prog w T r d n P OK) (hh : A.handled = none) (hok : OK s.heap) (hn : n ≤ sizeLine)
    (hQ : ∀ (h' : Heap) (tk : Nat) (acc : Array Value), (∀ b o, s.heap.get? b = some o → h'.get? b = some o) → ItemsOf P acc n → Q acc.toList { s with heap := h', toks := tk }) :
    wpAny (model prog w) A (collect (.ref r)) Q E s := by
  unfold collect
  refine wpAny_bind (wpAny_runValue (codeAny_builtin F.entry_proto_collect ?_))
  rw [Around.under_plainId F.plain_proto_collect _]
  show wpAny _ A.in1 (newList [] >>= fun l => again (.builtin "list.__iadd__" ⟨[l, .ref r], []⟩)) _ _ s
  refine wpAny_bind (wpAny_newObj_type ?_)
  refine wpAny_pure ⟨plainId_quiet F.plain_list_iadd _, codeAny_builtin F.entry_list_iadd ?_⟩
  rw [Around.under_plainId F.plain_list_iadd _]
  show wpAny _ A.in1 (Builtin.List.listExtendWith (.ref s.heap.objs.size) (.ref r) (.ref s.heap.objs.size)) _ _ _
  have hS : (s.heap.push { cls := .type "list", data := .seq ([] : List Value).toArray }).get? s.heap.objs.size = some { cls := .type "list", data := .seq #[] 0 } := Heap.get?_push_size _ rfl
  obtain ⟨t1, t2⟩ := K.there s.heap hok
  have ok2 : OK (s.heap.push { cls := .type "list", data := .seq ([] : List Value).toArray }) := K.keep _ _ hok fun b _ o e => Heap.get?_push_of_some _ e
  refine wpAny_mono (kdl_extend (A := A) (R := fun rr s' => rr = .ok (.ret (.ref s.heap.objs.size)) ∧ ∃ (h' : Heap) (tk : Nat) (acc : Array Value) (c' : Nat), s' = { s with heap := h', toks := tk } ∧
      (∀ b o, s.heap.get? b = some o → h'.get? b = some o) ∧ h'.get? s.heap.objs.size = some { cls := .type "list", dict := none, data := .seq acc c', slots := #[] } ∧ ItemsOf P acc n)
    (s := { s with heap := s.heap.push { cls := .type "list", data := .seq ([] : List Value).toArray } }) K hh ok2 _ (Ne.symm (Nat.ne_of_lt t1)) (Ne.symm (Nat.ne_of_lt t2)) _ 0 hS
    (fun h' tk acc c' hk e hi => ⟨rfl, h', tk, acc, c', rfl, fun b o q => hk b o (Nat.ne_of_lt (Heap.lt_size q)) (Heap.get?_push_of_some _ q), e, hi⟩) hn) (fun fin s' h => ?_) (fun e s' h => ?_)
  · cases fin with
    | done f =>
      obtain ⟨e, h', tk, acc, c', rfl, hk, hS', hi⟩ := h
      cases e
      show wpAny _ A (load s.heap.objs.size >>= _) _ _ _
      exact wpAny_bind (wpAny_load hS' (wpAny_pure (hQ h' tk acc hk hi)))
    | again c' =>
      refine ⟨h.1, codeAny_mono h.2 fun rr s'' hr' => ?_⟩
      obtain ⟨rfl, h', tk, acc, c', rfl, hk, hS', hi⟩ := hr'
      show wpAny _ A (load s.heap.objs.size >>= _) _ _ _
      exact wpAny_bind (wpAny_load hS' (wpAny_pure (hQ h' tk acc hk hi)))
  · exact absurd h.1 (by simp)
theorem code_tuple_kdl {Q₁ : Value → Shared → Prop} (K : KdlSrc prog w "dict" r d n P OK) (hh : A.handled = none) (hok : OK s.heap) (hn : n ≤ sizeLine)
    (h : ∀ (h' : Heap) (tk : Nat) (acc : Array Value), (∀ b o, s.heap.get? b = some o → h'.get? b = some o) → ItemsOf P acc n → Q₁ (.ref h'.objs.size) { s with heap := h'.push { cls := .type "tuple", data := .seq acc }, toks := tk }) :
    codeAny (model prog w) A (.call (.builtin "tuple.__new__") ⟨[.type "tuple", .ref r], []⟩) (wants Q₁ E) s := by
  refine codeAny_of_tree ?_
  show wpAny _ A.in1 (do checkBuiltinCall "tuple.__new__" ⟨[.type "tuple", .ref r], []⟩; again (.builtin "tuple.__new__" ⟨[.type "tuple", .ref r], []⟩)) _ _ s
  refine wpAny_bind (wpAny_of_eq (F.newCall_tuple_1 _) (wpAny_pure ⟨plainId_quiet F.plain_tuple_new _, codeAny_builtin F.entry_tuple_new ?_⟩))
  rw [Around.under_plainId F.plain_tuple_new _]
  have hsub := sub_tuple_self
  have hinit := init_tuple_lookup
  have hmh := madeHere_tuple
  have hTI : s.TypeIs (.ref r) "dict" := K.type s hok
  have hh1 : A.in1.handled = none := hh
  wp_walk using wpAny_typeOf hTI, collect_kdl (A := A.in1) K hh1 hok hn
  intro h' tk acc hk hacc
  show wpAny _ _ (Builtin.Tuple.tupleExact acc.toList.toArray >>= fun v => ret v) _ _ _
  unfold Builtin.Tuple.tupleExact
  refine wpAny_bind (wpAny_newObj_type ?_ (by show acc.toList.toArray.size ≤ sizeLine; simp only [Array.toArray_toList]; rw [hacc.1]; exact hn))
  refine wpAny_pure ?_
  have e : acc.toList.toArray = acc := by simp
  rw [e]
  exact h h' tk acc hk hacc
theorem call_tuple_kdl {Q : Value → Shared → Prop} (K : KdlSrc prog w "dict" r d n P OK) (hh : A.handled = none) (hok : OK s.heap) (hn : n ≤ sizeLine)
    (hQ : ∀ (h' : Heap) (tk : Nat) (acc : Array Value), (∀ b o, s.heap.get? b = some o → h'.get? b = some o) → ItemsOf P acc n → Q (.ref h'.objs.size) { s with heap := h'.push { cls := .type "tuple", data := .seq acc }, toks := tk }) :
    wpAny (model prog w) A (call (.type "tuple") [.ref r]) Q E s := by
  refine callType_codes (Q₁ := fun obj s₁ => s₁.TypeIs obj "tuple" ∧ Q obj s₁) F.called_tuple (F.typeCall_tuple_1 _) F.entry_object_init
    (code_tuple_kdl (A := A.in1) K hh hok hn fun h' tk acc hk hacc => ⟨⟨_, Heap.get?_push_size _ rfl, rfl⟩, hQ h' tk acc hk hacc⟩) fun obj s₁ h₁ => ?_
  exact ⟨h₁.1, F.args_object_init_2 obj _, object_init_meets F.called_tuple.init.lookup F.called_tuple.made (by decide) prog w A.in1 _ s₁ ⟨h₁.1, rfl, h₁.2⟩⟩
end
section
variable {X : Cx}
theorem call_tuple_dK (hc : X.calm = true) : CallR X (.type "tuple") (fun xs H Q => ∃ p kvs, xs = [.ref p] ∧ H p = some (.dK kvs) ∧ ∀ q, H q = none → Q (.ref q) (upd H q (.tup (kvs.map fun kv => kV kv.1)))) := by
  intro pins s σ H xs us Q I r h
  obtain ⟨p, kvs, e, hk, q⟩ := h
  subst e
  obtain ⟨u, eu, rx⟩ := vals1 r
  subst eu
  obtain rfl : u = Value.ref p := rx
  obtain ⟨z, lo, vs, rk, hd⟩ := (show ObjOk X.prog X.w H s.heap p (.dK kvs) from I.hok p _ hk)
  obtain ⟨ep, hat⟩ := hd.dictAt
  have hl : kvs.length = vs.length := Paired.length rk
  refine call_tuple_kdl (PySem.W.kdl_dict (knd := mixKind X.prog X.w) (kvs := vs) (ep := ep) lo) (I.ok.hd hc) hat (by rw [← hl]; exact z) fun h' tk acc' hkeep hacc => ?_
  have I2 : Inv X pins σ H { s with heap := h', toks := tk } := I.kept hkeep
  refine ⟨.ref h'.objs.size, upd H h'.objs.size (.tup (kvs.map fun kv => kV kv.1)), I2.laid (t' := tk) (fun c o e => Heap.get?_push_of_some _ e) (Nat.le_refl _) (show ObjOk X.prog X.w _ _ _ (.tup (kvs.map fun kv => kV kv.1)) from ⟨?_, acc'.toList, ?_, ?_⟩), rfl, q _ (I2.hok.fresh (Nat.le_refl _))⟩
  · rw [List.length_map]; exact z
  · have el : acc'.toList.length = acc'.size := by simp
    refine vals_of_at (by rw [List.length_map, el, hacc.1, hl]) fun j x w h1 h2 => ?_
    obtain ⟨k, y, hky, hi⟩ := hacc.2 j w (by rw [← Array.getElem?_toList]; exact h2)
    have e1 : (kvs.map (·.1))[j]? = some k := by
      rw [KV.keys rk, List.getElem?_map, hky] <;> rfl
    have e2 : (kvs.map fun kv => kV kv.1)[j]? = some (kV k) := by
      have e3 : (kvs.map fun kv => kV kv.1) = (kvs.map (·.1)).map kV := by rw [List.map_map] <;> rfl
      rw [e3, List.getElem?_map, e1] <;> rfl
    rw [e2] at h1
    cases h1
    exact keyIs_rel hi
  · rw [Array.toArray_toList]; exact IsTup.new _ _
noncomputable def rIxD : R2 := fun x y H Q => ∃ a kvs key v, x = .ref a ∧ y = kV key ∧ H a = some (.dK kvs) ∧ valV kvs key = some v ∧ Q v H
theorem ix_dic (hu : X.A.units + 1 < cLine) : IxR X rIxD := by
  intro value slice pins s σ H x y v u Q I rx ry h hs
  obtain ⟨a, kvs, key, w, rfl, rfl, e, l, q⟩ := h
  cases rx
  have g : DGet H a (kV key) (some w) := by rw [← l]; exact DGet.k e
  have hT := dict_typeIs I g
  unfold subscriptTail
  refine wpAny_bind ?_
  rw [getitemInPython_of_ne hT.not_modules]
  refine wpAny_bind (wpAny_specialOf hT PySem.F.slot_dict_getitem.lookup ?_)
  have fin : wpAny (model X.prog X.w) X.A (subscripted slice false (.ref a) u) (fun r s₃ => wpAny (model X.prog X.w) X.A (letTemporaryGo value (.ref a) r >>= fun _ => pure r) (EP X pins σ Q) X.xe s₃) X.xe s := by
    rw [hs]
    exact wpAny_operating (wpAny_mono (d_getItem (Q := EP X pins σ Q) (E := X.xe) hu I g ry fun w' s' I' rw' => ⟨w, H, I', rw', q⟩) (fun r s₃ h₃ => wpAny_bind (wpAny_letTemporaryGo (wpAny_pure h₃))) fun _ _ x => x)
  first
    | exact wpAny_pure (wpAny_bind fin)
    | exact wpAny_bind (wpAny_pure (wpAny_bind fin))
    | exact wpAny_bind fin
noncomputable def rSetD : TSet := fun o i v H Q => ∃ a kvs key, o = .ref a ∧ i = kV key ∧ H a = some (.dK kvs) ∧ kvs.length < sizeLine ∧ Q (upd H a (.dK (putK kvs key v)))
theorem set_dic (hu : X.A.units + 1 < cLine) : PSet X rSetD := by
  intro pins s σ H o i v ov iv u Q I ro ri rv h
  obtain ⟨a, kvs, key, rfl, rfl, e, hl, q⟩ := h
  cases ro
  exact d_setItem hu I (DPut.k e hl) ri rv fun s' I' => ⟨_, I', q⟩
theorem set_or {t u : TSet} (h : PSet X t) (k : PSet X u) : PSet X (fun o i v H Q => t o i v H Q ∨ u o i v H Q) := by
  intro pins s σ H o i v ov iv w Q I ro ri rv hq
  rcases hq with hq | hq
  · exact h pins s σ H o i v ov iv w Q I ro ri rv hq
  · exact k pins s σ H o i v ov iv w Q I ro ri rv hq
end
end AA
/-! AA3: expressions keep what is asked. -/
namespace AA
open PySem PySem.Spec L2
open PyProof.Rows hiding St

section
variable {X : Cx} {cad : Cad} {W : WX} {pos : Pos}
noncomputable abbrev gx (X : Cx) (cad : Cad) : Gm := ⟨X.K, cad⟩
noncomputable abbrev PEU (X : Cx) (cad : Cad) (W : WX) (e : Expr) (t : TD) : Prop := PE X e (up (gx X cad) W t)
noncomputable abbrev PTU (X : Cx) (cad : Cad) (W : WX) (e : Expr) (t : TTD) : Prop := PT X e (upt (gx X cad) W t)
noncomputable abbrev PWU (X : Cx) (cad : Cad) (W : WX) (e : Expr) (t : TTD) : Prop := PW X e (upt (gx X cad) W t)
noncomputable abbrev PAU (X : Cx) (cad : Cad) (W : WX) (e : List Expr) (t : TAD) : Prop := PA X e (upa (gx X cad) W t)
noncomputable abbrev PSU (X : Cx) (cad : Cad) (W : WX) (e : Stmt) (t : TSD) : Prop := PS X e (ups (gx X cad) W t)
noncomputable abbrev PSsU (X : Cx) (cad : Cad) (W : WX) (e : List Stmt) (t : TSD) : Prop := PSs X e (ups (gx X cad) W t)

theorem u_var {Γ : Tab} {i : Nat} {x : Str} (hN : X.N[i]? = some x) (hv : Vis X.env.scope x) (hd : (x == ("__debug__" : Str)) = false) (hcd : (x == ("__classdict__" : Str)) = false) : PEU X cad W (.Name x pos) (wpE Γ (.var i)) :=
  (pe_var hN hv hd hcd).mono fun σ H Q ⟨ρ, δ, α, M, Q', X', rs, rm, t, hq, hx⟩ => by
    simp only [wpE] at t
    obtain ⟨d, hd, t⟩ := t.inv
    obtain ⟨v, h1, h2⟩ := rs.2 i d hd
    exact ⟨v, h1, hq _ _ t v H α (Nx.refl ..) h2 rm⟩
theorem u_con {Γ : Tab} {e : Expr} {v : V} {d : D} (h : PE X e (tC v)) (r : ∀ ρ H α, RD (gx X cad) ρ H α d v) : PEU X cad W e (fun _ M Q _ => Q d M) :=
  h.mono fun σ H Q ⟨ρ, δ, α, M, Q', X', rs, rm, t, hq, hx⟩ => hq _ _ t v H α (Nx.refl ..) (r ρ H α) rm

/-- two in a row, then an operation by values -/
theorem tOp_up {r : R2} {R : D → D → Mem → DK → Prop} {ta tb : TD} {G : Gm}
    (h : ∀ ρ H α M (Q : DK) (Qv : VK) x y v u, RM G ρ H α M → RD G ρ H α x v → RD G ρ H α y u → R x y M Q → (∀ d M', Q d M' → wv G ρ α H Qv d M') → r v u H Qv) :
    ∀ σ H Q, up G W (fun δ M Q Xc => ta δ M (fun x M1 => tb δ M1 (fun y M2 => R x y M2 Q) Xc) Xc) σ H Q → tOp r (up G W ta) (up G W tb) σ H Q := by
  rintro σ H Qv ⟨ρ, δ, α, M, Q', X', rs, rm, t, hq, hx⟩
  refine ⟨ρ, δ, α, M, _, _, rs, rm, t, fun x M1 q v H1 α1 n1 r1 m1 => ?_, hx⟩
  refine ⟨ρ, δ, α1, M1, _, _, rs.nx n1, m1, q, fun y M2 q2 u H2 α2 n2 r2 m2 => ?_, fun c d M' x => (hx c d M' x).nx n1⟩
  exact h ρ H2 α2 M2 _ Qv x y v u m2 (r1.nx n2) r2 q2 fun d M' z => (hq d M' z).nx (n1.trans n2)

/-! ### operators -/
theorem new_tup {G : Gm} {ρ α : List Addr} {H : Hp} {M : Mem} {xs : List D} {vs : List V} {Q : DK} {Qv : VK} (rm : RM G ρ H α M) (r : RDs G ρ H α xs vs) (q : Q (.tup xs) M) (hq : ∀ d M', Q d M' → wv G ρ α H Qv d M')
    (p : Addr) (hp : H p = none) : Qv (.ref p) (upd H p (.tup vs)) := by
  refine hq _ _ q _ _ α (Nx.new hp) ⟨p, vs, rfl, .inl ⟨fun z => ?_, fun z => rm.rho p z (.inl hp), .inl upd_same⟩, r.nx (Nx.new (ρ := []) hp)⟩ (rm.new hp)
  obtain ⟨o, e⟩ := rm.mem z
  rw [hp] at e; cases e
theorem num_of {G : Gm} {ρ α : List Addr} {H : Hp} {M : Mem} (rm : RM G ρ H α M) {n : Nat} {mo : MO} (h : M[n]? = some mo) : ∃ a, α[n]? = some a ∧ RO G ρ H α a mo := by
  have hl : n < α.length := by rw [rm.len]; exact (List.getElem?_eq_some_iff.mp h).1
  exact ⟨α[n], List.getElem?_eq_getElem hl, rm.at_ n _ mo (List.getElem?_eq_getElem hl) h⟩
theorem LstAt.sql {K : PySem.W.Frag} {ρ α : List Addr} {H : Hp} {a : Addr} {vs : List V} (h : LstAt K ρ H α a vs) : SqL K H a vs := by
  rcases h with h | h
  · exact .inl h.2.2
  · exact .inr h
theorem TupAt.sqt {K : PySem.W.Frag} {ρ α : List Addr} {H : Hp} {a : Addr} {vs : List V} (h : TupAt K ρ H α a vs) : SqT K H a vs := by
  rcases h with h | h
  · exact .inl h.2.2
  · exact .inr h
/-- what seqD tells -/
theorem seq_of {G : Gm} {ρ α : List Addr} {H : Hp} {M : Mem} (rm : RM G ρ H α M) {d : D} {v : V} {xs : List D} (r : RD G ρ H α d v) (e : seqD M d = some xs) : ∃ a vs, v = .ref a ∧ (SqL G.K H a vs ∨ SqT G.K H a vs) ∧ RDs G ρ H α xs vs := by
  cases d with
  | tup ys => obtain ⟨a, vs, rfl, t, rs⟩ := r; cases e; exact ⟨a, vs, rfl, .inr t.sqt, rs⟩
  | lst ys => obtain ⟨a, vs, rfl, t, rs⟩ := r; cases e; exact ⟨a, vs, rfl, .inl t.sql, rs⟩
  | ref n =>
    obtain ⟨a, rfl, ha⟩ := r
    simp only [seqD] at e
    split at e
    · rename_i ys hm
      cases e
      obtain ⟨vs, h1, h2⟩ := rm.get ha hm
      exact ⟨a, vs, rfl, .inl (SqL.of h1), h2⟩
    · cases e
  | _ => cases e
theorem binD_add {ρ : List Addr} {H : Hp} {α : List Addr} {M : Mem} {Q : DK} {Qv : VK} {x : D} {v : V} {y : D} {u : V} (rm : RM (gx X cad) ρ H α M) (r1 : RD (gx X cad) ρ H α x v) (r2 : RD (gx X cad) ρ H α y u)
    (b : binD .add x y fun z => Q z M) (hq : ∀ d M', Q d M' → wv (gx X cad) ρ α H Qv d M') : (rI0 (fun i j => .int (i + j)) v u H Qv ∨ (∃ i j, v = .str i ∧ u = .str j ∧ i.length + j.length ≤ sizeLine ∧ Qv (.str (i ++ j)) H)) ∨ rCatA X.K v u H Qv := by
  unfold binD at b
  split at b <;> try contradiction
  · cases r1; cases r2
    exact .inl (.inl ⟨_, _, rfl, rfl, hq _ _ b _ _ _ (Nx.refl ..) rfl rm⟩)
  · cases r1; cases r2
    exact .inl (.inr ⟨_, _, rfl, rfl, by rw [sizeLine_eq]; exact b.1, hq _ _ b.2 _ _ _ (Nx.refl ..) rfl rm⟩)
  · rename_i xs ys _
    obtain ⟨a, vs, rfl, t1, rs1⟩ := id r1
    obtain ⟨b', us, rfl, t2, rs2⟩ := id r2
    refine .inr ⟨a, b', vs, us, rfl, rfl, t1.sqt, t2.sqt, by rw [sizeLine_eq, ← rs1.length, ← rs2.length]; exact b.1, fun e => ?_, fun _ e => ?_, fun _ _ p hp => ?_⟩
    · have : xs = [] := by
        have := rs1.length
        rw [e] at this
        exact List.eq_nil_of_length_eq_zero this
      subst this
      exact hq _ _ b.2 _ _ _ (Nx.refl ..) r2 rm
    · have : ys = [] := by
        have := rs2.length
        rw [e] at this
        exact List.eq_nil_of_length_eq_zero this
      subst this
      have b2 := b.2
      rw [List.append_nil] at b2
      exact hq _ _ b2 _ _ _ (Nx.refl ..) r1 rm
    · exact new_tup rm (rs1.append rs2) b.2 hq p hp
theorem rep_rds {G : Gm} {ρ : List Addr} {H : Hp} {α : List Addr} {xs : List D} {vs : List V} (r : RDs G ρ H α xs vs) : ∀ n, RDs G ρ H α (List.replicate n xs).flatten (List.replicate n vs).flatten
  | 0 => by simp; exact RDs.nil
  | n + 1 => by rw [List.replicate_succ, List.replicate_succ, List.flatten_cons, List.flatten_cons]; exact r.append (rep_rds r n)
noncomputable def bopOf : Bop → Operator
  | .add => .Add | .sub => .Sub | .mul => .Mult | .fdiv => .FloorDiv | .mod => .Mod | .pow => .Pow | .shl => .LShift | .shr => .RShift | .band => .BitAnd
theorem op_powW {X : Cx} : OpR X (binaryOp .Pow) (rI PowOk fun i j => .int (i ^ j.toNat)) := opI fun i j t u s Q E hc q => by
  refine pow_int hc.1 ?_ q
  have b : Builtin.Int.intBits i ≤ i.natAbs.log2 + 1 := by unfold Builtin.Int.intBits; split <;> omega
  have b2 : (Builtin.Int.intBits i : Int) ≤ (i.natAbs.log2 : Int) + 1 := by omega
  exact Int.le_trans (Int.mul_le_mul_of_nonneg_right b2 hc.1) hc.2
theorem repS_one (a : Str) : repS a 1 = a := by
  unfold repS
  cases a
  simp
theorem repS_nil {a : Str} (h : a.length = 0) (n : Nat) : repS a n = a := by
  cases a with
  | mk c =>
    have e : c = #[] := by simpa [Str.length] using h
    subst e
    unfold repS
    congr 1
    show (List.replicate n (#[] : Array Nat)).foldl (· ++ ·) #[] = #[]
    induction n with
    | zero => rfl
    | succ n ih => rw [List.replicate_succ, List.foldl_cons]; simpa using ih
theorem op_repS : OpR X (binaryOp .Mult) (fun x y H Q => ∃ a j, x = .str a ∧ y = .int j ∧ 0 ≤ j ∧ j ≤ 16777216 ∧ a.length * j.toNat ≤ sizeLine ∧ Q (.str (repS a j.toNat)) H) := by
  intro pins s σ H x y v u Q I rx ry h
  obtain ⟨a, j, rfl, rfl, j0, j1, hz, q⟩ := h
  obtain ⟨t, rfl⟩ := rx
  obtain ⟨t', rfl⟩ := ry
  have tl : Builtin.Str.tooLong (a.length * j.toNat) = false := by
    unfold Builtin.Str.tooLong
    exact decide_eq_false (by omega)
  refine PySem.P.mul_str (by rw [decide_eq_false (by omega), decide_eq_false (by omega)]; rfl) (fun h1 h2 => ?_) (fun _ _ => tl) ?_
  · have e1 : a.length * j.toNat ≤ 16777216 := by rw [sizeLine_eq] at hz; exact hz
    have hj : 1 ≤ j := by omega
    have h3 : (a.length : Int) * j ≤ 16777216 := by
      have := Int.ofNat_le.mpr e1
      rw [Int.natCast_mul, Int.toNat_of_nonneg j0] at this
      exact this
    have h4 : (a.length : Int) ≤ 16777216 := by
      have h5 : (a.length : Int) * 1 ≤ (a.length : Int) * j := Int.mul_le_mul_of_nonneg_left hj (by omega)
      omega
    have h6 : (16777216 : Int) ≤ (2 ^ 63 - 1) / j := Int.le_ediv_of_mul_le (by omega) (by omega)
    omega
  · by_cases h1 : j < 1
    · have e : j.toNat = 0 := by omega
      rw [if_pos h1]
      refine ⟨by decide, .str (repS a j.toNat), H, I.tok _, ⟨s.toks, ?_⟩, q⟩
      rw [e]
      rfl
    · rw [if_neg h1]
      by_cases h2 : (j == 1 || a.length == 0) = true
      · rw [if_pos h2]
        have e : repS a j.toNat = a := by
          simp only [Bool.or_eq_true, beq_iff_eq] at h2
          rcases h2 with h2 | h2
          · rw [h2]; exact repS_one a
          · exact repS_nil h2 _
        exact ⟨.str (repS a j.toNat), H, I, ⟨t, by rw [e]⟩, q⟩
      · rw [if_neg h2]
        exact ⟨fits_reps tl, .str (repS a j.toNat), H, I.tok _, ⟨_, rfl⟩, q⟩
theorem u_bin {Γ : Tab} {op : Bop} {a b : Expr} {a' b' : E} (ha : PEU X cad W a (wpE Γ a')) (hb : PEU X cad W b (wpE Γ b')) : PEU X cad W (.BinOp a (bopOf op) b pos) (wpE Γ (.bin op a' b')) := by
  have key : ∀ (r : R2), OpR X (binaryOp (bopOf op)) r → (∀ ρ H α M (Q : DK) (Qv : VK) x y v u, RM (gx X cad) ρ H α M → RD (gx X cad) ρ H α x v → RD (gx X cad) ρ H α y u → binD op x y (fun z => Q z M) → (∀ d M', Q d M' → wv (gx X cad) ρ α H Qv d M') → r v u H Qv) →
      PEU X cad W (.BinOp a (bopOf op) b pos) (wpE Γ (.bin op a' b')) := fun r ho h => by
    have q := (pe_op (pos := pos) ho ha hb).mono (tOp_up (G := gx X cad) (W := W) (R := fun x y M Q => binD op x y fun z => Q z M) h)
    simpa only [wpE] using q
  cases op with
  | add => exact key _ ((op_add.or op_add_str).or op_catA) fun ρ H α M Q Qv x y v u rm r1 r2 b hq => binD_add rm r1 r2 b hq
  | sub =>
      refine key _ op_sub fun ρ H α M Q Qv x y v u rm r1 r2 b hq => ?_
      unfold binD at b
      split at b <;> try contradiction
      cases r1; cases r2
      exact ⟨_, _, rfl, rfl, hq _ _ b _ _ _ (Nx.refl ..) rfl rm⟩
  | mul =>
      refine key _ (((op_mul.or op_mulW).or op_repT).or op_repS) fun ρ H α M Q Qv x y v u rm r1 r2 b hq => ?_
      unfold binD at b
      split at b <;> try contradiction
      · cases r1; cases r2
        rcases b.1 with c | c
        · exact .inl (.inl (.inl ⟨_, _, rfl, rfl, c, hq _ _ b.2 _ _ _ (Nx.refl ..) rfl rm⟩))
        · exact .inl (.inl (.inr ⟨_, _, rfl, rfl, c, hq _ _ b.2 _ _ _ (Nx.refl ..) rfl rm⟩))
      · rename_i xs j _
        obtain ⟨a, vs, rfl, t1, rs1⟩ := id r1
        cases r2
        refine .inl (.inr ⟨a, j, vs, rfl, rfl, t1.sqt, fun e => b.1.1 (List.eq_nil_of_length_eq_zero (by rw [rs1.length, e]; rfl)), b.1.2.1, b.1.2.2.1, by rw [← rs1.length]; exact b.1.2.2.2, fun p hp => new_tup rm (rep_rds rs1 _) b.2 hq p hp⟩)
      · cases r1; cases r2
        exact .inr ⟨_, _, rfl, rfl, b.1.1, b.1.2.1, by rw [sizeLine_eq]; exact b.1.2.2, hq _ _ b.2 _ _ _ (Nx.refl ..) rfl rm⟩
  | fdiv =>
      refine key _ (op_fdiv.or op_fdivW) fun ρ H α M Q Qv x y v u rm r1 r2 b hq => ?_
      unfold binD at b
      split at b <;> try contradiction
      cases r1; cases r2
      rcases b.1.2 with c | c
      · exact .inl ⟨_, _, rfl, rfl, ⟨b.1.1, c⟩, hq _ _ b.2 _ _ _ (Nx.refl ..) rfl rm⟩
      · exact .inr ⟨_, _, rfl, rfl, ⟨b.1.1, c⟩, hq _ _ b.2 _ _ _ (Nx.refl ..) rfl rm⟩
  | mod =>
      refine key _ op_mod fun ρ H α M Q Qv x y v u rm r1 r2 b hq => ?_
      unfold binD at b
      split at b <;> try contradiction
      cases r1; cases r2
      exact ⟨_, _, rfl, rfl, b.1, hq _ _ b.2 _ _ _ (Nx.refl ..) rfl rm⟩
  | pow =>
      refine key _ op_powW fun ρ H α M Q Qv x y v u rm r1 r2 b hq => ?_
      unfold binD at b
      split at b <;> try contradiction
      cases r1; cases r2
      exact ⟨_, _, rfl, rfl, b.1, hq _ _ b.2 _ _ _ (Nx.refl ..) rfl rm⟩
  | shl => exact key _ op_shl fun ρ H α M Q Qv x y v u rm r1 r2 b hq => (by unfold binD at b; split at b <;> contradiction)
  | shr => exact key _ op_shr fun ρ H α M Q Qv x y v u rm r1 r2 b hq => (by unfold binD at b; split at b <;> contradiction)
  | band => exact key _ op_and fun ρ H α M Q Qv x y v u rm r1 r2 b hq => (by unfold binD at b; split at b <;> contradiction)

/-! ### comparisons -/
mutual
theorem dp_of {G : Gm} {ρ : List Addr} {H : Hp} {α : List Addr} : ∀ (d : D) (v : V) (p : PyData), RD G ρ H α d v → pd d = some p → Dp G.K H v p
  | .non, v, p, r, e => by cases r; cases e; exact .non
  | .bl b, v, p, r, e => by cases r; cases e; exact .bl b
  | .int b, v, p, r, e => by cases r; cases e; exact .int b
  | .str b, v, p, r, e => by cases r; cases e; exact .str b
  | .tup xs, v, p, r, e => by
    obtain ⟨a, vs, rfl, t, rs⟩ := r
    simp only [pd] at e
    split at e
    · rename_i ds h; cases e; exact .tup t.sqt (dps_of xs vs ds rs h)
    · cases e
  | .lst xs, v, p, r, e => by
    obtain ⟨a, vs, rfl, t, rs⟩ := r
    simp only [pd] at e
    split at e
    · rename_i ds h; cases e; exact .lst t.sql (dps_of xs vs ds rs h)
    · cases e
  | .ref _, v, p, r, e => by cases e
  | .exc _ _, v, p, r, e => by cases e
  | .dic0, v, p, r, e => by cases e
  | .dts _, v, p, r, e => by cases e
theorem dps_of {G : Gm} {ρ : List Addr} {H : Hp} {α : List Addr} : ∀ (ds : List D) (vs : List V) (ps : List PyData), RDs G ρ H α ds vs → pds ds = some ps → DpAll G.K H vs ps
  | [], vs, ps, r, e => by cases e; rw [show vs = [] from r]; exact .nil
  | d :: ds, vs, ps, r, e => by
    obtain ⟨v, vs', rfl, r1, rs⟩ := r
    simp only [pds] at e
    split at e
    · rename_i p ps' h1 h2
      cases e
      exact .cons (dp_of d v p r1 h1) (dps_of ds vs' ps' rs h2)
    · cases e
end
theorem dp_ofM {G : Gm} {ρ : List Addr} {H : Hp} {α : List Addr} {M : Mem} (rm : RM G ρ H α M) (d : D) (v : V) (p : PyData) (r : RD G ρ H α d v) (e : pdM M d = some p) : Dp G.K H v p := by
  cases d with
  | ref n =>
    obtain ⟨a, rfl, ha⟩ := r
    simp only [pdM] at e
    split at e <;> try contradiction
    rename_i xs hm
    split at e <;> try contradiction
    rename_i ds hd
    cases e
    obtain ⟨vs, h1, h2⟩ := rm.get ha hm
    exact .lst (SqL.of h1) (dps_of xs vs ds h2 hd)
  | _ => exact dp_of _ v p r e
noncomputable def copOf : Cop → CmpOp
  | .lt => .Lt | .le => .LtE | .gt => .Gt | .ge => .GtE | .eq => .Eq | .ne => .NotEq | .is => .Is | .isnot => .IsNot | .inn => .In | .notin => .NotIn
/-- x in y, all ways -/
noncomputable def rInA (K : PySem.W.Frag) (neg : Bool) : R2 := fun x y H Q => (rIn K neg x y H Q ∨ rInN K neg x y H Q) ∨ (∃ i j, x = .str i ∧ y = .str j ∧ Q (.bl (if neg then !(!(Builtin.Str.occurrences j i 0 j.length 1).isEmpty) else !(Builtin.Str.occurrences j i 0 j.length 1).isEmpty)) H) ∨
  (∃ a kvs key, y = .ref a ∧ H a = some (.dK kvs) ∧ x = kV key ∧ Q (.bl (if neg then !(valV kvs key).isSome else (valV kvs key).isSome)) H) ∨ rInT K neg x y H Q
/-- a comparison's rule by values -/
noncomputable def rCop (K : PySem.W.Frag) : Cop → R2
  | .lt => rI0 fun i j => .bl (decide (i < j))
  | .le => fun x y H Q => rI0 (fun i j => .bl (decide (i ≤ j))) x y H Q ∨ rLeT K x y H Q
  | .gt => rI0 fun i j => .bl (decide (j < i))
  | .ge => rI0 fun i j => .bl (decide (j ≤ i))
  | .eq => fun x y H Q => (∃ a b, x = .str a ∧ y = .str b ∧ Q (.bl (decide (a = b))) H) ∨ rEqD K x y H Q ∨ rDic0 false x y H Q
  | .ne => fun x y H Q => (∃ a b, x = .str a ∧ y = .str b ∧ Q (.bl (!decide (a = b))) H) ∨ rNeD K x y H Q ∨ rDic0 true x y H Q
  | .is => fun x y H Q => (y = .non ∧ Q (.bl (decide (x = .non))) H) ∨ ∃ a b, x = .bl a ∧ y = .bl b ∧ Q (.bl (decide (a = b))) H
  | .isnot => fun x y H Q => (y = .non ∧ Q (.bl (!decide (x = .non))) H) ∨ ∃ a b, x = .bl a ∧ y = .bl b ∧ Q (.bl (!decide (a = b))) H
  | .inn => rInA K false
  | .notin => rInA K true
theorem dec_strV {a b : Str} : decide (V.str a = V.str b) = decide (a = b) := by
  by_cases h : a = b
  · subst h; simp
  · simp [h]
theorem cop_ok (hu : X.A.units + 64 < cLine) : ∀ op : Cop, OpR X (compareOp (copOf op)) (rCop X.K op)
  | .lt => op_lt
  | .le => op_le.or (op_leT (Nat.lt_of_le_of_lt (Nat.le_add_right _ _) hu))
  | .gt => op_gt
  | .ge => op_ge
  | .eq => fun pins s σ H x y v u Q I rx ry h => by
    rcases h with ⟨a, b, rfl, rfl, q⟩ | h
    · exact op_eq pins s σ H _ _ v u Q I rx ry ⟨rfl, by rw [dec_strV]; exact q⟩
    · rcases h with h | h
      · exact op_eqD hu pins s σ H x y v u Q I rx ry h
      · exact op_eqDic hu pins s σ H x y v u Q I rx ry h
  | .ne => fun pins s σ H x y v u Q I rx ry h => by
    rcases h with ⟨a, b, rfl, rfl, q⟩ | h
    · exact op_ne pins s σ H _ _ v u Q I rx ry ⟨rfl, by rw [dec_strV]; exact q⟩
    · rcases h with h | h
      · exact op_neD hu pins s σ H x y v u Q I rx ry h
      · exact op_neDic hu pins s σ H x y v u Q I rx ry h
  | .is => op_isN.or op_is_bl
  | .isnot => op_notN.or op_isnot_bl
  | .inn => fun pins s σ H x y v u Q I rx ry h => by
    rcases h with (h | h) | h | h | h
    · exact op_in_seq pins s σ H x y v u Q I rx ry h
    · exact op_inNon hu pins s σ H x y v u Q I rx ry h
    · exact op_in_str pins s σ H x y v u Q I rx ry h
    · exact op_inDic hu pins s σ H x y v u Q I rx ry h
    · exact op_inT hu pins s σ H x y v u Q I rx ry h
  | .notin => fun pins s σ H x y v u Q I rx ry h => by
    rcases h with (h | h) | h | h | h
    · exact op_notIn_seq pins s σ H x y v u Q I rx ry h
    · exact op_notInNon hu pins s σ H x y v u Q I rx ry h
    · exact op_notin_str pins s σ H x y v u Q I rx ry h
    · exact op_notInDic hu pins s σ H x y v u Q I rx ry h
    · exact op_notInT hu pins s σ H x y v u Q I rx ry h
theorem RD.non_iff {G : Gm} {ρ : List Addr} {H : Hp} {α : List Addr} {d : D} {v : V} (r : RD G ρ H α d v) (e : v = .non) : d = .non := by
  subst e
  cases d with
  | non => rfl
  | bl _ => cases r
  | int _ => cases r
  | str _ => cases r
  | tup _ => obtain ⟨a, vs, z, _⟩ := r; cases z
  | lst _ => obtain ⟨a, vs, z, _⟩ := r; cases z
  | ref _ => obtain ⟨a, z, _⟩ := r; cases z
  | exc _ _ => obtain ⟨a, _, _, z, _⟩ := r; cases z
  | dic0 => obtain ⟨a, z, _⟩ := r; cases z
  | dts _ => obtain ⟨a, _, z, _⟩ := r; cases z
theorem strs_rds {G : Gm} {ρ α : List Addr} {H : Hp} : ∀ {xs : List D} {vs : List V} {bs : List Str}, RDs G ρ H α xs vs → strsD xs = some bs → vs = bs.map V.str
  | [], vs, bs, r, e => by cases e; exact r
  | x :: xs, vs, bs, r, e => by
    obtain ⟨v, vs', rfl, r1, rs⟩ := r
    cases x <;> simp only [strsD] at e <;> try contradiction
    split at e <;> try contradiction
    rename_i is h
    cases e; cases r1
    rw [strs_rds rs h]; rfl
theorem ints_rds' {G : Gm} {ρ α : List Addr} {H : Hp} : ∀ {xs : List D} {vs : List V} {bs : List Int}, RDs G ρ H α xs vs → intsD xs = some bs → vs = bs.map V.int
  | [], vs, bs, r, e => by cases e; exact r
  | x :: xs, vs, bs, r, e => by
    obtain ⟨v, vs', rfl, r1, rs⟩ := r
    cases x <;> simp only [intsD] at e <;> try contradiction
    split at e <;> try contradiction
    rename_i is h
    cases e; cases r1
    rw [ints_rds' rs h]; rfl
theorem inV_strs (a : Str) : ∀ ss : List Str, inV (.str a) (ss.map V.str) = decide (a ∈ ss) ∧ (ss.map V.str).all flatV = true
  | [] => ⟨rfl, rfl⟩
  | b :: ss => by
    obtain ⟨h1, h2⟩ := inV_strs a ss
    refine ⟨?_, h2⟩
    show (b == a || inV (.str a) (ss.map V.str)) = _
    rw [h1]
    by_cases h : b = a
    · subst h; simp
    · have h' : ¬ a = b := fun z => h z.symm
      simp [h, h']
theorem inV_ints (a : Int) : ∀ ss : List Int, inV (.int a) (ss.map V.int) = decide (a ∈ ss) ∧ (ss.map V.int).all flatV = true
  | [] => ⟨rfl, rfl⟩
  | b :: ss => by
    obtain ⟨h1, h2⟩ := inV_ints a ss
    refine ⟨?_, h2⟩
    show (b == a || inV (.int a) (ss.map V.int)) = _
    rw [h1]
    by_cases h : b = a
    · subst h; simp
    · have h' : ¬ a = b := fun z => h z.symm
      simp [h, h']
theorem inL_val {neg : Bool} {ρ : List Addr} {H : Hp} {α : List Addr} {M : Mem} {k : Bool → Prop} {Qv : VK} {x y : D} {v u : V} (rm : RM (gx X cad) ρ H α M) (r1 : RD (gx X cad) ρ H α x v) (r2 : RD (gx X cad) ρ H α y u)
    (c : inL M x y k) (hk : ∀ b, k b → Qv (.bl (if neg then !b else b)) H) : rIn X.K neg v u H Qv ∨ rInN X.K neg v u H Qv := by
  obtain ⟨ys, e, c⟩ := c.inv
  obtain ⟨a, vs, rfl, sq, rs⟩ := seq_of rm r2 e
  rcases c with ⟨s, ss, rfl, e2, q⟩ | ⟨s, ss, rfl, e2, q⟩ | ⟨ds, rfl, e2, sh, q⟩
  · cases r1
    have ev := strs_rds rs e2
    subst ev
    obtain ⟨i1, i2⟩ := inV_strs s ss
    refine .inl ⟨a, _, rfl, sq, rfl, i2, ?_⟩
    rw [i1]; exact hk _ q
  · cases r1
    have ev := ints_rds' rs e2
    subst ev
    obtain ⟨i1, i2⟩ := inV_ints s ss
    refine .inl ⟨a, _, rfl, sq, rfl, i2, ?_⟩
    rw [i1]; exact hk _ q
  · cases r1
    exact .inr ⟨ds, rfl, dp_ofM rm y _ _ r2 e2, sh, hk _ q⟩
theorem in_val {neg : Bool} {ρ : List Addr} {H : Hp} {α : List Addr} {M : Mem} {k : Bool → Prop} {Qv : VK} {x y : D} {v u : V} (rm : RM (gx X cad) ρ H α M) (r1 : RD (gx X cad) ρ H α x v) (r2 : RD (gx X cad) ρ H α y u)
    (c : inD M x y k) (hk : ∀ b, k b → Qv (.bl (if neg then !b else b)) H) : rInA X.K neg v u H Qv := by
  rcases c.inv with ⟨a, b, rfl, rfl, q⟩ | ⟨n, kvs, key, rfl, hm, hkey, q⟩ | c | ⟨ks, rfl, c2⟩
  · cases r1; cases r2
    exact .inr (.inl ⟨_, _, rfl, rfl, hk _ q⟩)
  · obtain ⟨a, rfl, ha⟩ := r2
    obtain ⟨ws, h1, h2, h3⟩ := rm.get ha hm
    refine .inr (.inr (.inl ⟨a, ws, key, rfl, h1, keyD_rel hkey r1, ?_⟩))
    rw [← val_some h2 h3]
    exact hk _ q
  · exact .inl (inL_val rm r1 r2 c hk)
  · obtain ⟨xs, ns, rfl, hx, c3⟩ := c2.inv
    obtain ⟨t, vs, rfl, t1, rss⟩ := r1
    have ev := ints_rds' rss hx
    subst ev
    obtain ⟨a, L, rfl, t2, e2, h2⟩ := r2
    subst e2
    exact .inr (.inr (.inr ⟨a, t, L, ns, rfl, rfl, t2.2.2, fun p hp => (h2 p hp).sqt, t1.sqt, hk _ c3⟩))
theorem cmp_val {op : Cop} {ρ : List Addr} {H : Hp} {α : List Addr} {M : Mem} {k : Bool → Prop} {Qv : VK} {x y : D} {v u : V} (rm : RM (gx X cad) ρ H α M) (r1 : RD (gx X cad) ρ H α x v) (r2 : RD (gx X cad) ρ H α y u)
    (c : cmpD op M x y k) (hk : ∀ b, k b → Qv (.bl b) H) : rCop X.K op v u H Qv := by
  cases op with
  | lt => simp only [cmpD] at c; split at c <;> try contradiction
          cases r1; cases r2; exact ⟨_, _, rfl, rfl, hk _ c⟩
  | le =>
    rcases leD.inv c with ⟨i, j, rfl, rfl, c⟩ | ⟨xs, ys, ns, ms, rfl, rfl, h1, h2, c⟩
    · cases r1; cases r2; exact .inl ⟨_, _, rfl, rfl, hk _ c⟩
    · obtain ⟨a, vs, rfl, t1, rs1⟩ := r1
      obtain ⟨b, us, rfl, t2, rs2⟩ := r2
      have e1 := ints_rds' rs1 h1
      have e2 := ints_rds' rs2 h2
      subst e1 e2
      exact .inr ⟨a, b, ns, ms, rfl, rfl, t1.sqt, t2.sqt, hk _ c⟩
  | gt => simp only [cmpD] at c; split at c <;> try contradiction
          cases r1; cases r2; exact ⟨_, _, rfl, rfl, hk _ c⟩
  | ge => simp only [cmpD] at c; split at c <;> try contradiction
          cases r1; cases r2; exact ⟨_, _, rfl, rfl, hk _ c⟩
  | eq =>
    have rest : eqRest M x y k → rCop X.K .eq v u H Qv := fun c => by
      unfold eqRest at c
      split at c <;> try contradiction
      rename_i d e h1 h2
      exact .inr <| .inl ⟨d, e, dp_ofM rm x v d r1 h1, dp_ofM rm y u e r2 h2, c.1, c.2.1, hk _ c.2.2⟩
    cases x with
    | str a =>
      cases y with
      | str b =>
        cases r1; cases r2
        exact .inl ⟨_, _, rfl, rfl, hk _ c⟩
      | _ => exact rest c
    | ref n =>
      cases y with
      | dic0 =>
        obtain ⟨kvs, hm, c⟩ := dicD.inv c
        obtain ⟨a, rfl, ha⟩ := r1
        obtain ⟨ws, h1, h2, h3⟩ := rm.get ha hm
        obtain ⟨b, rfl, _, _, hb⟩ := r2
        refine .inr (.inr ⟨a, b, ws, rfl, rfl, h1, hb, ?_⟩)
        have e : kvs.isEmpty = ws.isEmpty := by rw [← empty_len, ← empty_len, len_rel h2]
        show Qv (.bl _) H
        simp only [Bool.false_eq_true, if_false, if_true]
        rw [← e]
        exact hk _ c
      | _ => exact rest c
    | _ => exact rest c
  | ne =>
    have rest : (eqRest M x y fun b => k (!b)) → rCop X.K .ne v u H Qv := fun c => by
      unfold eqRest at c
      split at c <;> try contradiction
      rename_i d e h1 h2
      exact .inr <| .inl ⟨d, e, dp_ofM rm x v d r1 h1, dp_ofM rm y u e r2 h2, c.1, c.2.1, hk _ c.2.2⟩
    cases x with
    | str a =>
      cases y with
      | str b =>
        cases r1; cases r2
        exact .inl ⟨_, _, rfl, rfl, hk _ c⟩
      | _ => exact rest c
    | ref n =>
      cases y with
      | dic0 =>
        obtain ⟨kvs, hm, c⟩ := dicD.inv (M := M) (n := n) (k := fun b => k (!b)) c
        obtain ⟨a, rfl, ha⟩ := r1
        obtain ⟨ws, h1, h2, h3⟩ := rm.get ha hm
        obtain ⟨b, rfl, _, _, hb⟩ := r2
        refine .inr (.inr ⟨a, b, ws, rfl, rfl, h1, hb, ?_⟩)
        have e : kvs.isEmpty = ws.isEmpty := by rw [← empty_len, ← empty_len, len_rel h2]
        show Qv (.bl _) H
        simp only [Bool.false_eq_true, if_false, if_true]
        rw [← e]
        exact hk _ c
      | _ => exact rest c
    | _ => exact rest c
  | is =>
    simp only [cmpD] at c
    split at c <;> try contradiction
    · cases r1; cases r2; exact .inl ⟨rfl, hk _ (by simpa using c)⟩
    · rename_i h; cases r2
      refine .inl ⟨rfl, hk _ ?_⟩
      have : ¬ v = .non := fun z => h (r1.non_iff z)
      rw [decide_eq_false this]; exact c
    · cases r1; cases r2; exact .inr ⟨_, _, rfl, rfl, hk _ c⟩
  | isnot =>
    simp only [cmpD] at c
    split at c <;> try contradiction
    · cases r1; cases r2; exact .inl ⟨rfl, hk _ (by simpa using c)⟩
    · rename_i h; cases r2
      refine .inl ⟨rfl, hk _ ?_⟩
      have : ¬ v = .non := fun z => h (r1.non_iff z)
      rw [decide_eq_false this]; exact c
    · cases r1; cases r2; exact .inr ⟨_, _, rfl, rfl, hk _ c⟩
  | inn => exact in_val rm r1 r2 c hk
  | notin => exact in_val (neg := true) (k := fun b => k (!b)) rm r1 r2 c fun b z => hk _ z
theorem u_cmp {Γ : Tab} {op : Cop} {a b : Expr} {a' b' : E} (hu : X.A.units + 64 < cLine) (hm : behindInMarks (copOf op) b = false) (ha : PEU X cad W a (wpE Γ a')) (hb : PEU X cad W b (wpE Γ b')) :
    PEU X cad W (.Compare a [copOf op] [b] pos) (wpE Γ (.cmp op a' b')) := by
  have q := (pe_cmpR (pos := pos) (cop_ok hu op) ha hb hm).mono (tOp_up (G := gx X cad) (W := W) (R := fun x y M Q => cmpD op M x y fun t => Q (.bl t) M) fun ρ H α M Q Qv x y v u rm r1 r2 c hq =>
    cmp_val rm r1 r2 c fun b z => hq _ _ z _ _ _ (Nx.refl ..) rfl rm)
  simpa only [wpE] using q
theorem u_cmpT {Γ : Tab} {op : Cop} {a b : Expr} {a' b' : E} (hu : X.A.units + 64 < cLine) (hm : behindInMarks (copOf op) b = false) (ha : PEU X cad W a (wpE Γ a')) (hb : PEU X cad W b (wpE Γ b')) :
    PTU X cad W (.Compare a [copOf op] [b] pos) (wpT Γ (.cmp op a' b')) := by
  refine (pt_cmpR (pos := pos) (cop_ok hu op) ha hb hm).mono fun σ H Qv ⟨ρ, δ, α, M, Q', X', rs, rm, t, hq, hx⟩ => ?_
  simp only [wpT] at t
  refine ⟨ρ, δ, α, M, _, _, rs, rm, t, fun x M1 q v H1 α1 n1 r1 m1 => ?_, hx⟩
  refine ⟨ρ, δ, α1, M1, _, _, rs.nx n1, m1, q, fun y M2 q2 u H2 α2 n2 r2 m2 => ?_, fun c d M' x => (hx c d M' x).nx n1⟩
  exact cmp_val m2 (r1.nx n2) r2 q2 fun b z => ⟨b, rfl, hq _ _ z _ _ (n1.trans n2) m2⟩
theorem u_chain {Γ : Tab} {op op' : Cop} {a b c : Expr} {a' b' c' : E} (hu : X.A.units + 64 < cLine) (hm : lastMarks [copOf op, copOf op'] [b, c] = false) (ha : PEU X cad W a (wpE Γ a')) (hb : PEU X cad W b (wpE Γ b')) (hc : PEU X cad W c (wpE Γ c')) :
    PEU X cad W (.Compare a [copOf op, copOf op'] [b, c] pos) (wpE Γ (.chain op op' a' b' c')) := by
  refine (pe_chain (pos := pos) (cop_ok hu op) (cop_ok hu op') ha hb hc hm).mono fun σ H Qv ⟨ρ, δ, α, M, Q', X', rs, rm, t, hq, hx⟩ => ?_
  simp only [wpE] at t
  refine ⟨ρ, δ, α, M, _, _, rs, rm, t, fun x M1 q v H1 α1 n1 r1 m1 => ?_, hx⟩
  refine ⟨ρ, δ, α1, M1, _, _, rs.nx n1, m1, q, fun y M2 q2 u H2 α2 n2 r2 m2 => ?_, fun c d M' x => (hx c d M' x).nx n1⟩
  refine cmp_val m2 (r1.nx n2) r2 q2 fun k z => ⟨k, rfl, ?_⟩
  cases k with
  | true =>
    rw [if_pos rfl]
    rw [if_pos rfl] at z
    refine ⟨ρ, δ, α2, M2, _, _, rs.nx (n1.trans n2), m2, z, fun y' M3 q3 w H3 α3 n3 r3 m3 => ?_, fun c d M' x => (hx c d M' x).nx (n1.trans n2)⟩
    exact cmp_val m3 (r2.nx n3) r3 q3 fun b z => hq _ _ z _ _ _ ((n1.trans n2).trans n3) rfl m3
  | false =>
    rw [if_neg Bool.false_ne_true]
    rw [if_neg Bool.false_ne_true] at z
    exact hq _ _ z _ _ _ (n1.trans n2) rfl m2
theorem u_chainT {Γ : Tab} {op op' : Cop} {a b c : Expr} {a' b' c' : E} (hu : X.A.units + 64 < cLine) (hm : lastMarks [copOf op, copOf op'] [b, c] = false) (ha : PEU X cad W a (wpE Γ a')) (hb : PEU X cad W b (wpE Γ b')) (hc : PEU X cad W c (wpE Γ c')) :
    PTU X cad W (.Compare a [copOf op, copOf op'] [b, c] pos) (wpT Γ (.chain op op' a' b' c')) := by
  refine (pt_chain (pos := pos) (cop_ok hu op) (cop_ok hu op') ha hb hc hm).mono fun σ H Qv ⟨ρ, δ, α, M, Q', X', rs, rm, t, hq, hx⟩ => ?_
  simp only [wpT] at t
  refine ⟨ρ, δ, α, M, _, _, rs, rm, t, fun x M1 q v H1 α1 n1 r1 m1 => ?_, hx⟩
  refine ⟨ρ, δ, α1, M1, _, _, rs.nx n1, m1, q, fun y M2 q2 u H2 α2 n2 r2 m2 => ?_, fun c d M' x => (hx c d M' x).nx n1⟩
  refine cmp_val m2 (r1.nx n2) r2 q2 fun k z => ⟨k, rfl, ?_⟩
  cases k with
  | true =>
    rw [if_pos rfl]
    rw [if_pos rfl] at z
    refine ⟨ρ, δ, α2, M2, _, _, rs.nx (n1.trans n2), m2, z, fun y' M3 q3 w H3 α3 n3 r3 m3 => ?_, fun c d M' x => (hx c d M' x).nx (n1.trans n2)⟩
    exact cmp_val m3 (r2.nx n3) r3 q3 fun b z => ⟨b, rfl, hq _ _ z _ _ ((n1.trans n2).trans n3) m3⟩
  | false =>
    rw [if_neg Bool.false_ne_true]
    rw [if_neg Bool.false_ne_true] at z
    exact ⟨_, rfl, hq _ _ z _ _ (n1.trans n2) m2⟩

/-! ### and, or, not, if -/
theorem u_neg {Γ : Tab} {a : Expr} {a' : E} (ha : PEU X cad W a (wpE Γ a')) : PEU X cad W (.UnaryOp .USub a pos) (wpE Γ (.neg a')) := by
  refine (pe_un (pos := pos) un_neg ha).mono fun σ H Qv ⟨ρ, δ, α, M, Q', X', rs, rm, t, hq, hx⟩ => ?_
  simp only [wpE] at t
  refine ⟨ρ, δ, α, M, _, _, rs, rm, t, fun x M1 q v H1 α1 n1 r1 m1 => ?_, hx⟩
  obtain ⟨i, rfl, q'⟩ := q.inv
  cases r1
  exact ⟨_, rfl, hq _ _ q' _ _ _ n1 rfl m1⟩
theorem u_and {Γ : Tab} {a b : Expr} {rest : List Expr} {a' b' : E} (ha : PEU X cad W a (wpE Γ a')) (hb : PEU X cad W (.BoolOp .And (b :: rest) pos) (wpE Γ b')) : PEU X cad W (.BoolOp .And (a :: b :: rest) pos) (wpE Γ (.and_ a' b')) := by
  refine (pe_and (pos := pos) ha hb).mono fun σ H Qv ⟨ρ, δ, α, M, Q', X', rs, rm, t, hq, hx⟩ => ?_
  simp only [wpE] at t
  refine ⟨ρ, δ, α, M, _, _, rs, rm, t, fun x M1 q v H1 α1 n1 r1 m1 => ?_, hx⟩
  obtain ⟨c, rfl, q'⟩ := q.inv; clear q; have q := q'
  cases r1
  refine ⟨c, rfl, ?_⟩
  cases c with
  | true => rw [if_pos rfl] at q ⊢; exact ⟨ρ, δ, α1, M1, _, _, rs.nx n1, m1, q, fun d M' z => (hq d M' z).nx n1, fun c d M' x => (hx c d M' x).nx n1⟩
  | false => rw [if_neg Bool.false_ne_true] at q ⊢; exact hq _ _ q _ _ _ n1 rfl m1
theorem u_or {Γ : Tab} {a b : Expr} {rest : List Expr} {a' b' : E} (ha : PEU X cad W a (wpE Γ a')) (hb : PEU X cad W (.BoolOp .Or (b :: rest) pos) (wpE Γ b')) : PEU X cad W (.BoolOp .Or (a :: b :: rest) pos) (wpE Γ (.or_ a' b')) := by
  refine (pe_or (pos := pos) ha hb).mono fun σ H Qv ⟨ρ, δ, α, M, Q', X', rs, rm, t, hq, hx⟩ => ?_
  simp only [wpE] at t
  refine ⟨ρ, δ, α, M, _, _, rs, rm, t, fun x M1 q v H1 α1 n1 r1 m1 => ?_, hx⟩
  obtain ⟨c, rfl, q'⟩ := q.inv; clear q; have q := q'
  cases r1
  refine ⟨c, rfl, ?_⟩
  cases c with
  | false => rw [if_neg Bool.false_ne_true] at q ⊢; exact ⟨ρ, δ, α1, M1, _, _, rs.nx n1, m1, q, fun d M' z => (hq d M' z).nx n1, fun c d M' x => (hx c d M' x).nx n1⟩
  | true => rw [if_pos rfl] at q ⊢; exact hq _ _ q _ _ _ n1 rfl m1
theorem u_andT {Γ : Tab} {a b : Expr} {rest : List Expr} {a' b' : E} (ha : PTU X cad W a (wpT Γ a')) (hb : PWU X cad W (.BoolOp .And (b :: rest) pos) (wpT Γ b')) : PWU X cad W (.BoolOp .And (a :: b :: rest) pos) (wpT Γ (.and_ a' b')) := by
  refine (pw_and (pos := pos) ha hb).mono fun σ H Qv ⟨ρ, δ, α, M, Q', X', rs, rm, t, hq, hx⟩ => ?_
  simp only [wpT] at t
  refine ⟨ρ, δ, α, M, _, _, rs, rm, t, fun c M1 q H1 α1 n1 m1 => ?_, hx⟩
  cases c with
  | true => rw [if_pos rfl] at q ⊢; exact ⟨ρ, δ, α1, M1, _, _, rs.nx n1, m1, q, fun d M' z => (hq d M' z).nx n1, fun c d M' x => (hx c d M' x).nx n1⟩
  | false => rw [if_neg Bool.false_ne_true] at q ⊢; exact hq _ _ q _ _ n1 m1
theorem u_orT {Γ : Tab} {a b : Expr} {rest : List Expr} {a' b' : E} (ha : PTU X cad W a (wpT Γ a')) (hb : PWU X cad W (.BoolOp .Or (b :: rest) pos) (wpT Γ b')) : PWU X cad W (.BoolOp .Or (a :: b :: rest) pos) (wpT Γ (.or_ a' b')) := by
  refine (pw_or (pos := pos) ha hb).mono fun σ H Qv ⟨ρ, δ, α, M, Q', X', rs, rm, t, hq, hx⟩ => ?_
  simp only [wpT] at t
  refine ⟨ρ, δ, α, M, _, _, rs, rm, t, fun c M1 q H1 α1 n1 m1 => ?_, hx⟩
  cases c with
  | false => rw [if_neg Bool.false_ne_true] at q ⊢; exact ⟨ρ, δ, α1, M1, _, _, rs.nx n1, m1, q, fun d M' z => (hq d M' z).nx n1, fun c d M' x => (hx c d M' x).nx n1⟩
  | true => rw [if_pos rfl] at q ⊢; exact hq _ _ q _ _ n1 m1
theorem u_notT {Γ : Tab} {a : Expr} {a' : E} (ha : PTU X cad W a (wpT Γ a')) : PTU X cad W (.UnaryOp .Not a pos) (wpT Γ (.not_ a')) := by
  refine (pt_not (pos := pos) ha).mono fun σ H Qv ⟨ρ, δ, α, M, Q', X', rs, rm, t, hq, hx⟩ => ?_
  simp only [wpT] at t
  exact ⟨ρ, δ, α, M, _, _, rs, rm, t, fun c M1 q H1 α1 n1 m1 => hq _ _ q _ _ n1 m1, hx⟩
theorem u_ife {Γ : Tab} {c a b : Expr} {c' a' b' : E} (hc : PTU X cad W c (wpT Γ c')) (ha : PEU X cad W a (wpE Γ a')) (hb : PEU X cad W b (wpE Γ b')) : PEU X cad W (.IfExp c a b pos) (wpE Γ (.ife c' a' b')) := by
  refine (pe_ifExp (pos := pos) hc ha hb).mono fun σ H Qv ⟨ρ, δ, α, M, Q', X', rs, rm, t, hq, hx⟩ => ?_
  simp only [wpE] at t
  refine ⟨ρ, δ, α, M, _, _, rs, rm, t, fun c M1 q H1 α1 n1 m1 => ?_, hx⟩
  cases c with
  | false => rw [if_neg Bool.false_ne_true] at q ⊢; exact ⟨ρ, δ, α1, M1, _, _, rs.nx n1, m1, q, fun d M' z => (hq d M' z).nx n1, fun c d M' x => (hx c d M' x).nx n1⟩
  | true => rw [if_pos rfl] at q ⊢; exact ⟨ρ, δ, α1, M1, _, _, rs.nx n1, m1, q, fun d M' z => (hq d M' z).nx n1, fun c d M' x => (hx c d M' x).nx n1⟩
end
end AA
/-! AA4: displays, subscripts, built-ins. -/
namespace AA
open PySem PySem.Spec L2
open PyProof.Rows hiding St

section
variable {X : Cx} {cad : Cad} {W : WX} {pos : Pos}
theorem new_lst {G : Gm} {ρ α : List Addr} {H : Hp} {M : Mem} {xs : List D} {vs : List V} {Q : DK} {Qv : VK} (rm : RM G ρ H α M) (r : RDs G ρ H α xs vs) (q : Q (.lst xs) M) (hq : ∀ d M', Q d M' → wv G ρ α H Qv d M')
    (p : Addr) (hp : H p = none) : Qv (.ref p) (upd H p (.lst vs)) := by
  refine hq _ _ q _ _ α (Nx.new hp) ⟨p, vs, rfl, .inl ⟨fun z => ?_, fun z => rm.rho p z (.inl hp), .inl upd_same⟩, r.nx (Nx.new (ρ := []) hp)⟩ (rm.new hp)
  obtain ⟨o, e⟩ := rm.mem z
  rw [hp] at e; cases e
theorem new_num {G : Gm} {ρ α : List Addr} {H : Hp} {M : Mem} {xs : List D} {vs : List V} {Q : DK} {Qv : VK} (rm : RM G ρ H α M) (r : RDs G ρ H α xs vs) (q : Q (.ref M.length) (M ++ [.lst xs])) (hq : ∀ d M', Q d M' → wv G ρ α H Qv d M')
    (p : Addr) (hp : H p = none) : Qv (.ref p) (upd H p (.lst vs)) := by
  refine hq _ _ q _ _ (α ++ [p]) (Nx.num hp) ⟨p, rfl, ?_⟩ (rm.num hp ⟨vs, upd_same, r.nx (Nx.num (ρ := []) hp)⟩)
  rw [← rm.len, List.getElem?_append_right (Nat.le_refl _)]; simp

/-! ### argument lists -/
theorem a_nil {Γ : Tab} : PAU X cad W [] (wpEs Γ .nil) := pa_nil.mono fun σ H Qv ⟨ρ, δ, α, M, Q', X', rs, rm, t, hq, hx⟩ => hq _ _ (by simpa only [wpEs] using t) _ _ _ (Nx.refl ..) RDs.nil rm
theorem a_cons {Γ : Tab} {e : Expr} {es : List Expr} {e' : E} {es' : Es} (hs : starEach (e :: es) X.env = (false, eval e X.env) :: starEach es X.env) (h1 : PEU X cad W e (wpE Γ e')) (h2 : PAU X cad W es (wpEs Γ es')) : PAU X cad W (e :: es) (wpEs Γ (.cons e' es')) := by
  refine (pa_cons h1 h2 hs).mono fun σ H Qv ⟨ρ, δ, α, M, Q', X', rs, rm, t, hq, hx⟩ => ?_
  simp only [wpEs] at t
  refine ⟨ρ, δ, α, M, _, _, rs, rm, t, fun x M1 q v H1 α1 n1 r1 m1 => ?_, hx⟩
  refine ⟨ρ, δ, α1, M1, _, _, rs.nx n1, m1, q, fun ys M2 q2 us H2 α2 n2 r2 m2 => ?_, fun c d M' x => (hx c d M' x).nx n1⟩
  exact hq _ _ q2 _ _ _ (n1.trans n2) (RDs.cons (r1.nx n2) r2) m2
theorem a_star {Γ : Tab} {e : Expr} {es : List Expr} {e' : E} {es' : Es} {p : Pos} (h1 : PEU X cad W e (wpE Γ e')) (h2 : PAU X cad W es (wpEs Γ es')) : PAU X cad W (.Starred e p :: es) (wpEs Γ (.star e' es')) := by
  refine (StX.pa_star (p := p) h1 h2).mono fun σ H Qv ⟨ρ, δ, α, M, Q', X', rs, rm, t, hq, hx⟩ => ?_
  simp only [wpEs] at t
  refine ⟨ρ, δ, α, M, _, _, rs, rm, t, fun x M1 q v H1 α1 n1 r1 m1 => ?_, hx⟩
  obtain ⟨xs, e, q'⟩ := q.inv; clear q; have q := q'
  obtain ⟨a, vs, rfl, sq, rs1⟩ := seq_of m1 r1 e
  refine ⟨a, vs, rfl, sq.symm, ρ, δ, α1, M1, _, _, rs.nx n1, m1, q, fun ys M2 q2 us H2 α2 n2 r2 m2 => ?_, fun c d M' x => (hx c d M' x).nx n1⟩
  exact hq _ _ q2 _ _ _ (n1.trans n2) ((rs1.nx n2).append r2) m2
/-- arguments, then something by values -/
theorem tCB_up {G : Gm} {r : List V → Hp → VK → Prop} {ta : TAD} {R : List D → Mem → DK → Prop}
    (h : ∀ ρ H α M (Q : DK) (Qv : VK) ds vs, RM G ρ H α M → RDs G ρ H α ds vs → R ds M Q → (∀ d M', Q d M' → wv G ρ α H Qv d M') → r vs H Qv) :
    ∀ σ H Q, up G W (fun δ M Q Xc => ta δ M (fun ds M1 => R ds M1 Q) Xc) σ H Q → tCB r (upa G W ta) σ H Q := by
  rintro σ H Qv ⟨ρ, δ, α, M, Q', X', rs, rm, t, hq, hx⟩
  exact ⟨ρ, δ, α, M, _, _, rs, rm, t, fun ds M1 q vs H1 α1 n1 r1 m1 => h ρ H1 α1 M1 _ Qv ds vs m1 r1 q fun d M' z => (hq d M' z).nx n1, hx⟩
theorem u_tup {Γ : Tab} {es : List Expr} {es' : Es} {k : Nat} (h : PAU X cad W es (wpEs Γ es')) : PEU X cad W (.Tuple es k pos) (wpE Γ (.tup es')) := by
  refine (pe_tup (pos := pos) (x1 := k) h).mono fun σ H Qv ⟨ρ, δ, α, M, Q', X', rs, rm, t, hq, hx⟩ => ?_
  simp only [wpE] at t
  refine ⟨ρ, δ, α, M, _, _, rs, rm, t, fun ds M1 q vs H1 α1 n1 r1 m1 => ⟨by rw [sizeLine_eq, ← r1.length]; exact q.1, fun p hp => ?_⟩, hx⟩
  exact new_tup m1 r1 q.2 (fun d M' z => (hq d M' z).nx n1) p hp
theorem u_lst {Γ : Tab} {es : List Expr} {es' : Es} {m : Bool} (h : PAU X cad W es (wpEs Γ es')) : PEU X cad W (.List es pos) (wpE Γ (.lst m es')) := by
  refine (pe_lst (pos := pos) h).mono fun σ H Qv ⟨ρ, δ, α, M, Q', X', rs, rm, t, hq, hx⟩ => ?_
  cases m with
  | false =>
    simp only [wpE] at t
    refine ⟨ρ, δ, α, M, _, _, rs, rm, t, fun ds M1 q vs H1 α1 n1 r1 m1 => ⟨by rw [sizeLine_eq, ← r1.length]; exact q.1, fun p hp => ?_⟩, hx⟩
    exact new_lst m1 r1 q.2 (fun d M' z => (hq d M' z).nx n1) p hp
  | true =>
    simp only [wpE] at t
    refine ⟨ρ, δ, α, M, _, _, rs, rm, t, fun ds M1 q vs H1 α1 n1 r1 m1 => ⟨by rw [sizeLine_eq, ← r1.length]; exact q.1, fun p hp => ?_⟩, hx⟩
    exact new_num m1 r1 q.2 (fun d M' z => (hq d M' z).nx n1) p hp

/-! ### subscripts -/
theorem atI_rds {G : Gm} {ρ α : List Addr} {H : Hp} {xs : List D} {vs : List V} {i : Int} {d : D} (r : RDs G ρ H α xs vs) (h : atI xs i = some d) : ∃ v, atI vs i = some v ∧ RD G ρ H α d v := by
  unfold atI at h ⊢
  rw [r.length] at h
  cases e : ixN vs.length i with
  | none => rw [e] at h; cases h
  | some j =>
    rw [e] at h
    obtain ⟨v, h1, h2⟩ := r.get (show xs[j]? = some d from h)
    exact ⟨v, h1, h2⟩
theorem u_idx {Γ : Tab} {a b : Expr} {a' b' : E} (hu : X.A.units + 64 < cLine) (hs : PlainIx b) (ha : PEU X cad W a (wpE Γ a')) (hb : PEU X cad W b (wpE Γ b')) : PEU X cad W (.Subscript a b pos) (wpE Γ (.idx a' b')) := by
  have q := (pe_ix (pos := pos) (((ix_list.or ix_tup).or ix_str).or (ix_dic (Nat.lt_of_le_of_lt (Nat.add_le_add_left (by decide) _) hu))) ha hb hs).mono (tOp_up (G := gx X cad) (W := W)
    (R := fun x y M Q => idxD M x y fun d => Q d M) fun ρ H α M Q Qv x y v u rm r1 r2 c hq => by
      rcases c.inv with ⟨xs, j, d, rfl, h1, hd, c⟩ | ⟨z, j, e, rfl, rfl, hz, he, c⟩ | ⟨key, n, kvs, d, hk, rfl, hm, hv, c⟩
      · cases r2
        obtain ⟨a, vs, rfl, sq, rs⟩ := seq_of rm r1 h1
        obtain ⟨w, h2, h3⟩ := atI_rds rs hd
        have z := hq _ _ c w H α (Nx.refl ..) h3 rm
        rcases sq with sq | sq
        · exact .inl (.inl (.inl ⟨a, vs, j, w, rfl, rfl, sq, h2, z⟩))
        · exact .inl (.inl (.inr ⟨a, vs, j, w, rfl, rfl, sq, h2, z⟩))
      · cases r1; cases r2
        exact .inl (.inr ⟨z, j, e, rfl, rfl, by rw [sizeLine_eq]; exact hz, he, hq _ _ c _ H α (Nx.refl ..) rfl rm⟩)
      · have ek := keyD_rel hk r2
        obtain ⟨a, rfl, ha⟩ := r1
        obtain ⟨ws, h1, h2, h3⟩ := rm.get ha hm
        rcases val_rel key h2 h3 with ⟨e1, _⟩ | ⟨d', v', e1, e2, r3⟩
        · rw [hv] at e1; cases e1
        · rw [hv] at e1; cases e1
          exact .inr ⟨a, ws, key, v', rfl, ek, h1, e2, hq _ _ c _ H α (Nx.refl ..) r3 rm⟩)
  simpa only [wpE] using q
noncomputable def upo (G : Gm) (W : WX) (t : Dst → Mem → (Option Int → Mem → Prop) → XD → Prop) : TO := fun σ H Q => ∃ ρ δ α M Q' X', RS G ρ H α δ σ ∧ RM G ρ H α M ∧ t δ M Q' X' ∧ (∀ o M', Q' o M' → ∀ H' α', Nx [] α H α' H' → RM G ρ H' α' M' → Q o H') ∧ (∀ c d M', X' c d M' → wx G W ρ α H σ c d M')
theorem o_none {Γ : Tab} : PO X none (upo (gx X cad) W (wpO Γ .no)) := ⟨fun pins s σ H Qv I ⟨ρ, δ, α, M, Q', X', rs, rm, t, hq, hx⟩ => po_none.run pins s σ H Qv I (hq _ _ (by simpa only [wpO] using t) _ _ (Nx.refl ..) rm)⟩
theorem o_some {Γ : Tab} {e : Expr} {e' : E} (h : PEU X cad W e (wpE Γ e')) : PO X (some e) (upo (gx X cad) W (wpO Γ (.so e'))) := by
  refine ⟨fun pins s σ H Qv I ⟨ρ, δ, α, M, Q', X', rs, rm, t, hq, hx⟩ => (po_some h).run pins s σ H Qv I ?_⟩
  simp only [wpO] at t
  refine ⟨ρ, δ, α, M, _, _, rs, rm, t, fun x M1 q v H1 α1 n1 r1 m1 => ?_, hx⟩
  obtain ⟨i, rfl, q'⟩ := q.inv
  cases r1
  exact ⟨_, rfl, hq _ _ q' _ _ n1 m1⟩
theorem cut_rds {G : Gm} {ρ α : List Addr} {H : Hp} {xs : List D} {vs : List V} (r : RDs G ρ H α xs vs) (lo hi : Option Int) : RDs G ρ H α (cutL xs lo hi) (cutV vs lo hi) := by
  unfold cutV cutL
  rw [r.length]
  exact (r.drop _).take _
theorem u_slc {Γ : Tab} {a : Expr} {lo hi : Option Expr} {a' : E} {l' h' : Op} {p2 : Pos} (ha : PEU X cad W a (wpE Γ a')) (hl : PO X lo (upo (gx X cad) W (wpO Γ l'))) (hh : PO X hi (upo (gx X cad) W (wpO Γ h'))) :
    PEU X cad W (.Subscript a (.Slice lo hi none p2) pos) (wpE Γ (.slc a' l' h')) := by
  refine (pe_slice (pos := pos) (p2 := p2) ((sl_tupA.or sl_list).or sl_str) ha hl hh).mono fun σ H Qv ⟨ρ, δ, α, M, Q', X', rs, rm, t, hq, hx⟩ => ?_
  simp only [wpE] at t
  refine ⟨ρ, δ, α, M, _, _, rs, rm, t, fun x M1 q v H1 α1 n1 r1 m1 => ?_, hx⟩
  refine ⟨ρ, δ, α1, M1, _, _, rs.nx n1, m1, q, fun o M2 q2 H2 α2 n2 m2 => ?_, fun c d M' x => (hx c d M' x).nx n1⟩
  refine ⟨ρ, δ, α2, M2, _, _, rs.nx (n1.trans n2), m2, q2, fun o2 M3 q3 H3 α3 n3 m3 => ?_, fun c d M' x => (hx c d M' x).nx (n1.trans n2)⟩
  have hq' : ∀ d M', Q' d M' → wv (gx X cad) ρ α3 H3 Qv d M' := fun d M' z => (hq d M' z).nx ((n1.trans n2).trans n3)
  have r3 := r1.nx (n2.trans n3)
  unfold slcD at q3
  split at q3 <;> try contradiction
  · split at q3 <;> try contradiction
    rename_i xs hm
    obtain ⟨a, rfl, ha⟩ := id r3
    obtain ⟨vs, h1, h2⟩ := m3.get ha hm
    exact .inl (.inr ⟨a, vs, rfl, SqL.of h1, fun p hp => new_lst m3 (cut_rds h2 o o2) q3 hq' p hp⟩)
  · rename_i xs
    obtain ⟨a, vs, rfl, t1, rs1⟩ := id r3
    refine .inl (.inl ⟨a, vs, rfl, t1.sqt, fun e => ?_, fun _ p hp => new_tup m3 (cut_rds rs1 o o2) q3 hq' p hp⟩)
    have e1 : cutL xs o o2 = xs := by
      unfold cutL
      rw [rs1.length, e.1, e.2, ← rs1.length]
      simp
    rw [e1] at q3
    exact hq' _ _ q3 _ _ _ (Nx.refl ..) r3 m3
  · obtain ⟨a, vs, rfl, t1, rs1⟩ := id r3
    exact .inl (.inr ⟨a, vs, rfl, t1.sql, fun p hp => new_lst m3 (cut_rds rs1 o o2) q3 hq' p hp⟩)
  · cases r3
    exact .inr ⟨_, rfl, by rw [sizeLine_eq]; exact q3.1, hq' _ _ q3.2 _ _ _ (Nx.refl ..) rfl m3⟩

/-- what lstD tells -/
theorem lst_of {G : Gm} {ρ α : List Addr} {H : Hp} {M : Mem} (rm : RM G ρ H α M) {d : D} {v : V} {xs : List D} (r : RD G ρ H α d v) (e : lstD M d = some xs) : ∃ a vs, v = .ref a ∧ SqL G.K H a vs ∧ RDs G ρ H α xs vs := by
  cases d with
  | lst ys => obtain ⟨a, vs, rfl, t, rs⟩ := r; cases e; exact ⟨a, vs, rfl, t.sql, rs⟩
  | ref n =>
    obtain ⟨a, rfl, ha⟩ := r
    simp only [lstD] at e
    split at e
    · rename_i ys hm
      cases e
      obtain ⟨vs, h1, h2⟩ := rm.get ha hm
      exact ⟨a, vs, rfl, SqL.of h1, h2⟩
    · cases e
  | _ => cases e
/-- a list cut: the new one is numbered -/
theorem u_slcm {Γ : Tab} {a : Expr} {lo hi : Option Expr} {a' : E} {l' h' : Op} {p2 : Pos} (ha : PEU X cad W a (wpE Γ a')) (hl : PO X lo (upo (gx X cad) W (wpO Γ l'))) (hh : PO X hi (upo (gx X cad) W (wpO Γ h'))) :
    PEU X cad W (.Subscript a (.Slice lo hi none p2) pos) (wpE Γ (.slcm a' l' h')) := by
  refine (pe_slice (pos := pos) (p2 := p2) sl_list ha hl hh).mono fun σ H Qv ⟨ρ, δ, α, M, Q', X', rs, rm, t, hq, hx⟩ => ?_
  simp only [wpE] at t
  refine ⟨ρ, δ, α, M, _, _, rs, rm, t, fun x M1 q v H1 α1 n1 r1 m1 => ?_, hx⟩
  refine ⟨ρ, δ, α1, M1, _, _, rs.nx n1, m1, q, fun o M2 q2 H2 α2 n2 m2 => ?_, fun c d M' x => (hx c d M' x).nx n1⟩
  refine ⟨ρ, δ, α2, M2, _, _, rs.nx (n1.trans n2), m2, q2, fun o2 M3 q3 H3 α3 n3 m3 => ?_, fun c d M' x => (hx c d M' x).nx (n1.trans n2)⟩
  have hq' : ∀ d M', Q' d M' → wv (gx X cad) ρ α3 H3 Qv d M' := fun d M' z => (hq d M' z).nx ((n1.trans n2).trans n3)
  have r3 := r1.nx (n2.trans n3)
  obtain ⟨xs, e, q4⟩ := q3.inv
  obtain ⟨a, vs, rfl, sq, rs1⟩ := lst_of m3 r3 e
  exact ⟨a, vs, rfl, sq, fun p hp => new_num m3 (cut_rds rs1 o o2) q4 hq' p hp⟩

/-! ### built-ins -/
theorem bls_rds {G : Gm} {ρ α : List Addr} {H : Hp} : ∀ {xs : List D} {vs : List V} {bs : List Bool}, RDs G ρ H α xs vs → blsD xs = some bs → vs = bs.map V.bl
  | [], vs, bs, r, e => by cases e; exact r
  | x :: xs, vs, bs, r, e => by
    obtain ⟨v, vs', rfl, r1, rs⟩ := r
    cases x <;> simp only [blsD] at e <;> try contradiction
    split at e <;> try contradiction
    rename_i is h
    cases e; cases r1
    rw [bls_rds rs h]; rfl
theorem ints_rds {G : Gm} {ρ α : List Addr} {H : Hp} : ∀ {xs : List D} {vs : List V} {bs : List Int}, RDs G ρ H α xs vs → intsD xs = some bs → vs = bs.map V.int
  | [], vs, bs, r, e => by cases e; exact r
  | x :: xs, vs, bs, r, e => by
    obtain ⟨v, vs', rfl, r1, rs⟩ := r
    cases x <;> simp only [intsD] at e <;> try contradiction
    split at e <;> try contradiction
    rename_i is h
    cases e; cases r1
    rw [ints_rds rs h]; rfl
noncomputable def biS : Bi → String
  | .len => "len" | .abs => "abs" | .sum => "sum" | .all => "all" | .any => "any" | .min2 => "min" | .max2 => "max" | .min1 => "min" | .max1 => "max"
  | .int => "int" | .list => "list" | .tuple => "tuple" | .repr => "repr" | .str => "str" | .sorted => "sorted"
noncomputable def rMinT (K : PySem.W.Frag) : List V → Hp → VK → Prop := fun vs H Q => ∃ (a : Addr) (ns : List Int), vs = [V.ref a] ∧ SqT K H a (ns.map V.int) ∧ 0 < ns.length ∧ ∀ m, m ∈ ns → (∀ y, y ∈ ns → m ≤ y) → Q (.int m) H
noncomputable def rMaxT (K : PySem.W.Frag) : List V → Hp → VK → Prop := fun vs H Q => ∃ (a : Addr) (ns : List Int), vs = [V.ref a] ∧ SqT K H a (ns.map V.int) ∧ 0 < ns.length ∧ ∀ m, m ∈ ns → (∀ y, y ∈ ns → y ≤ m) → Q (.int m) H
theorem fold_min : ∀ (ns : List Int) (n : Int), ns.foldl min n ∈ n :: ns ∧ ∀ y ∈ n :: ns, ns.foldl min n ≤ y
  | [], n => ⟨by simp, fun y hy => by simp at hy; simp [hy]⟩
  | k :: ns, n => by
    obtain ⟨h1, h2⟩ := fold_min ns (min n k)
    rw [List.foldl_cons]
    have h0 := h2 (min n k) List.mem_cons_self
    refine ⟨?_, fun y hy => ?_⟩
    · rcases List.mem_cons.mp h1 with e | h1
      · rw [e]
        by_cases z : n ≤ k
        · rw [Int.min_eq_left z]; simp
        · rw [Int.min_eq_right (by omega)]; simp
      · exact List.mem_cons_of_mem _ (List.mem_cons_of_mem _ h1)
    · rcases List.mem_cons.mp hy with e | hy
      · subst e; omega
      · rcases List.mem_cons.mp hy with e | hy
        · subst e; omega
        · exact h2 y (List.mem_cons_of_mem _ hy)
theorem fold_max : ∀ (ns : List Int) (n : Int), ns.foldl max n ∈ n :: ns ∧ ∀ y ∈ n :: ns, y ≤ ns.foldl max n
  | [], n => ⟨by simp, fun y hy => by simp at hy; simp [hy]⟩
  | k :: ns, n => by
    obtain ⟨h1, h2⟩ := fold_max ns (max n k)
    rw [List.foldl_cons]
    have h0 := h2 (max n k) List.mem_cons_self
    refine ⟨?_, fun y hy => ?_⟩
    · rcases List.mem_cons.mp h1 with e | h1
      · rw [e]
        by_cases z : n ≤ k
        · rw [Int.max_eq_right z]; simp
        · rw [Int.max_eq_left (by omega)]; simp
      · exact List.mem_cons_of_mem _ (List.mem_cons_of_mem _ h1)
    · rcases List.mem_cons.mp hy with e | hy
      · subst e; omega
      · rcases List.mem_cons.mp hy with e | hy
        · subst e; omega
        · exact h2 y (List.mem_cons_of_mem _ hy)
theorem alike_ints (ns : List Int) : PySem.W.AlikeAll (ns.map PyData.int) := by
  constructor
  · intro x hx y hy
    obtain ⟨a, _, rfl⟩ := List.mem_map.mp hx
    obtain ⟨b, _, rfl⟩ := List.mem_map.mp hy
    rfl
  · intro x hx
    obtain ⟨a, _, rfl⟩ := List.mem_map.mp hx
    intro z; cases z
theorem deepL_ints : ∀ ns : List Int, PyData.depthAll (ns.map PyData.int) ≤ 1
  | [] => by simp [PyData.depthAll]
  | n :: ns => by
    have := deepL_ints ns
    simp only [List.map_cons, PyData.depthAll, PyData.depth]
    omega
theorem cr_minT (hc : X.calm = true) (hu : X.A.units + 64 < cLine) : CallR X (.builtin "min") (rMinT X.K) := by
  intro pins s σ H vs us Q I r h
  obtain ⟨a, ns, rfl, hs, hne, q⟩ := h
  obtain ⟨its, rv, hl, _⟩ := I.tuple hs
  rw [Vals.ref1 r]
  match ns, hne with
  | n :: ns, _ =>
    have d := deepL_ints (n :: ns)
    refine PySem.W.min_tuple_data (x := .int n) (xs := ns.map .int) (I.ok.hd hc) hl (by have := (rv.ints).reads s.heap; simpa using this) (alike_ints (n :: ns)) (by rw [List.map_cons] at d; omega) fun i v h' tk bs _ rd hk => ?_
    rw [PySem.W.minD_ints] at rd
    obtain ⟨f1, f2⟩ := fold_min ns n
    cases rd
    exact ⟨.int _, H, I.kept hk, ⟨_, rfl⟩, q _ f1 f2⟩
theorem cr_maxT (hc : X.calm = true) (hu : X.A.units + 64 < cLine) : CallR X (.builtin "max") (rMaxT X.K) := by
  intro pins s σ H vs us Q I r h
  obtain ⟨a, ns, rfl, hs, hne, q⟩ := h
  obtain ⟨its, rv, hl, _⟩ := I.tuple hs
  rw [Vals.ref1 r]
  match ns, hne with
  | n :: ns, _ =>
    have d := deepL_ints (n :: ns)
    refine PySem.W.max_tuple_data (x := .int n) (xs := ns.map .int) (I.ok.hd hc) hl (by have := (rv.ints).reads s.heap; simpa using this) (alike_ints (n :: ns)) (by rw [List.map_cons] at d; omega) fun i v h' tk bs _ rd hk => ?_
    rw [PySem.W.maxD_ints] at rd
    obtain ⟨f1, f2⟩ := fold_max ns n
    cases rd
    exact ⟨.int _, H, I.kept hk, ⟨_, rfl⟩, q _ f1 f2⟩
/-- sum(xs) of a tuple of ints -/
noncomputable def rSumT (K : PySem.W.Frag) : List V → Hp → VK → Prop := fun vs H Q => ∃ (a : Addr) (ns : List Int), vs = [V.ref a] ∧ SqT K H a (ns.map V.int) ∧ Q (.int ns.sum) H
theorem cr_sumT (hc : X.calm = true) : CallR X (.builtin "sum") (rSumT X.K) := by
  intro pins s σ H vs us Q I r h
  obtain ⟨a, ns, rfl, hs, q⟩ := h
  obtain ⟨its, rv, ht, _⟩ := I.tuple hs
  rw [Vals.ref1 r]
  obtain ⟨xs, e⟩ := rv.ints.allInts.items
  have hn2 : numsOf (intItems xs).toList = ns := by rw [← e]; exact rv.ints.numsOf
  rw [nums_intItems] at hn2
  rw [e] at ht
  refine PySem.W.ktm_sumG (I.ok.hd hc) ht fun h' tk t' hk => ?_
  rw [preSum_eq, List.take_of_length_le (by simp), hn2]
  exact ⟨.int _, H, I.kept hk, ⟨_, rfl⟩, q⟩
noncomputable def biTy : Bi → Bool
  | .int => true | .list => true | .tuple => true | .str => true | _ => false
noncomputable def biV (b : Bi) : Value := if biTy b = true then .type (biS b) else .builtin (biS b)
noncomputable def rReprD (K : PySem.W.Frag) (rp : PyData → Str) : List V → Hp → VK → Prop := fun xs H Q => ∃ x p, xs = [x] ∧ Dp K H x p ∧ ReprOk p ∧ Q (.str (rp p)) H
/-- a built-in's rule by values -/
noncomputable def rBi (K : PySem.W.Frag) (rp : PyData → Str) : Bi → List V → Hp → VK → Prop
  | .len => fun xs H Q => (∃ x n, xs = [x] ∧ LenV K x H n ∧ Q (.int n) H) ∨ (∃ a kvs, xs = [V.ref a] ∧ H a = some (.dK kvs) ∧ Q (.int kvs.length) H) ∨ rLenDt K xs H Q
  | .abs => fun xs H Q => ∃ i, xs = [.int i] ∧ Q (.int (if i < 0 then -i else i)) H
  | .sum => fun xs H Q => rSum K xs H Q ∨ rSumT K xs H Q
  | .all => rAll K
  | .any => rAny K
  | .min2 => fun xs H Q => ∃ i j, xs = [.int i, .int j] ∧ Q (.int (if j < i then j else i)) H
  | .max2 => fun xs H Q => ∃ i j, xs = [.int i, .int j] ∧ Q (.int (if j > i then j else i)) H
  | .int => fun xs H Q => (∃ i, xs = [.int i] ∧ Q (.int i) H) ∨ (∃ k, xs = [.bl k] ∧ Q (.int (if k then 1 else 0)) H) ∨ ∃ a n, xs = [.str a] ∧ PySem.intText? a = some n ∧ a.length ≤ 640 ∧ Q (.int n) H
  | .tuple => fun xs H Q => (∃ p ys, xs = [.ref p] ∧ ((SqL K H p ys ∧ ∀ l, H l = none → Q (.ref l) (upd H l (.tup ys))) ∨ (SqT K H p ys ∧ Q (.ref p) H))) ∨ ∃ p kvs, xs = [.ref p] ∧ H p = some (.dK kvs) ∧ ∀ q, H q = none → Q (.ref q) (upd H q (.tup (kvs.map fun kv => kV kv.1)))
  | .list => fun xs H Q => ∃ p ys, xs = [.ref p] ∧ (SqL K H p ys ∨ SqT K H p ys) ∧ ∀ l, H l = none → Q (.ref l) (upd H l (.lst ys))
  | .repr => rReprD K rp
  | .str => fun xs H Q => ∃ i, xs = [.int i] ∧ i.natAbs.log2 < 1920 ∧ Q (.str (toString i)) H
  | .sorted => rSortedI K
  | .min1 => fun xs H Q => rMin K xs H Q ∨ rMinT K xs H Q
  | .max1 => fun xs H Q => rMax K xs H Q ∨ rMaxT K xs H Q
theorem bi_ok {rp : PyData → Str} (hc : X.calm = true) (hu : X.A.units + 64 < cLine) (hrp : CallR X (.builtin "repr") (rReprD X.K rp)) : ∀ b : Bi, CallR X (biV b) (rBi X.K rp b)
  | .len => fun pins s σ H vs us Q I r h => by
    rcases h with h | h | h
    · exact call_len pins s σ H vs us Q I r h
    · exact call_lenD pins s σ H vs us Q I r h
    · exact call_lenDt pins s σ H vs us Q I r h
  | .abs => call_abs
  | .sum => fun pins s σ H vs us Q I r h => by
    rcases h with h | h
    · exact cr_sum hc pins s σ H vs us Q I r h
    · exact cr_sumT hc pins s σ H vs us Q I r h
  | .all => cr_all hc
  | .any => cr_any hc
  | .min2 => call_min2 hc
  | .max2 => call_max2 hc
  | .int => fun pins s σ H vs us Q I r h => by
    rcases h with h | h | h
    · exact call_int1 pins s σ H vs us Q I r (.inl h)
    · exact call_int1 pins s σ H vs us Q I r (.inr h)
    · exact call_int_str pins s σ H vs us Q I r h
  | .tuple => fun pins s σ H vs us Q I r h => by
    rcases h with h | h
    · exact call_tuple_of pins s σ H vs us Q I r h
    · exact call_tuple_dK hc pins s σ H vs us Q I r h
  | .list => call_list_of
  | .repr => hrp
  | .min1 => fun pins s σ H vs us Q I r h => by
    rcases h with h | h
    · exact cr_min hc pins s σ H vs us Q I r h
    · exact cr_minT hc hu pins s σ H vs us Q I r h
  | .max1 => fun pins s σ H vs us Q I r h => by
    rcases h with h | h
    · exact cr_max hc pins s σ H vs us Q I r h
    · exact cr_maxT hc hu pins s σ H vs us Q I r h
  | .str => call_str_int
  | .sorted => cr_sortedI
theorem RDs.one {G : Gm} {ρ α : List Addr} {H : Hp} {d : D} {vs : List V} (r : RDs G ρ H α [d] vs) : ∃ v, vs = [v] ∧ RD G ρ H α d v := by
  obtain ⟨v, vs', rfl, r1, rs⟩ := r
  rw [show vs' = [] from rs]
  exact ⟨v, rfl, r1⟩
theorem RDs.two {G : Gm} {ρ α : List Addr} {H : Hp} {d e : D} {vs : List V} (r : RDs G ρ H α [d, e] vs) : ∃ v u, vs = [v, u] ∧ RD G ρ H α d v ∧ RD G ρ H α e u := by
  obtain ⟨v, vs', rfl, r1, rs⟩ := r
  obtain ⟨u, rfl, r2⟩ := rs.one
  exact ⟨v, u, rfl, r1, r2⟩
theorem bi_val {rp : PyData → Str} {b : Bi} {ρ : List Addr} {H : Hp} {α : List Addr} {M : Mem} {Q : DK} {Qv : VK} {ds : List D} {vs : List V} (rm : RM (gx X cad) ρ H α M) (r : RDs (gx X cad) ρ H α ds vs)
    (c : biD rp b ds M fun d => Q d M) (hq : ∀ d M', Q d M' → wv (gx X cad) ρ α H Qv d M') : rBi X.K rp b vs H Qv := by
  have fin : ∀ {d : D} {v : V}, Q d M → RD (gx X cad) ρ H α d v → Qv v H := fun q r => hq _ _ q _ _ _ (Nx.refl ..) r rm
  cases b with
  | min2 =>
    obtain ⟨x, y, rfl, c⟩ := twoD.inv (show twoD ds _ from c)
    obtain ⟨m, rfl, c⟩ := asInt.inv c
    obtain ⟨n, rfl, c⟩ := asInt.inv c
    obtain ⟨v, u, rfl, r1, r2⟩ := r.two
    cases r1; cases r2
    exact ⟨_, _, rfl, fin c rfl⟩
  | max2 =>
    obtain ⟨x, y, rfl, c⟩ := twoD.inv (show twoD ds _ from c)
    obtain ⟨m, rfl, c⟩ := asInt.inv c
    obtain ⟨n, rfl, c⟩ := asInt.inv c
    obtain ⟨v, u, rfl, r1, r2⟩ := r.two
    cases r1; cases r2
    exact ⟨_, _, rfl, fin c rfl⟩
  | len =>
    obtain ⟨x, rfl, c1⟩ := oneD.inv (k := fun d => lenD M d fun d => Q d M) c
    clear c
    have c := c1
    clear c1
    obtain ⟨v, rfl, r1⟩ := r.one
    have other : ∀ xs, seqD M x = some xs → Q (.int xs.length) M → rBi X.K rp .len [v] H Qv := by
      intro xs h q
      obtain ⟨a, us, rfl, sq, rs⟩ := seq_of rm r1 h
      refine .inl ⟨_, us.length, rfl, ?_, by rw [← rs.length]; exact fin q rfl⟩
      rcases sq with sq | sq
      · exact .inl ⟨us, sq, rfl⟩
      · exact .inr ⟨us, sq, rfl⟩
    unfold lenD at c
    split at c
    · cases r1
      exact .inl ⟨_, _, rfl, ⟨by rw [sizeLine_eq]; exact c.1, rfl⟩, fin c.2 rfl⟩
    · obtain ⟨a, rfl, ha⟩ := id r1
      split at c <;> try contradiction
      · rename_i xs hm
        obtain ⟨us, h1, h2⟩ := rm.get ha hm
        refine .inl ⟨_, us.length, rfl, .inl ⟨us, SqL.of h1, rfl⟩, by rw [← h2.length]; exact fin c rfl⟩
      · rename_i kvs hm
        obtain ⟨ws, h1, h2, h3⟩ := rm.get ha hm
        exact .inr (.inl ⟨a, ws, rfl, h1, by rw [← len_rel h2]; exact fin c rfl⟩)
    · obtain ⟨a, L, rfl, t2, e2, h2⟩ := id r1
      subst e2
      exact .inr (.inr ⟨a, L, rfl, t2.2.2, fun p hp => (h2 p hp).sqt, by rw [List.length_map] at c; exact fin c rfl⟩)
    · split at c <;> try contradiction
      rename_i xs h
      exact other xs h c
  | abs =>
    obtain ⟨x, rfl, c⟩ := oneD.inv (show oneD ds _ from c)
    obtain ⟨i, rfl, c⟩ := asInt.inv c
    obtain ⟨v, rfl, r1⟩ := r.one
    cases r1
    exact ⟨_, rfl, fin c rfl⟩
  | sum =>
    obtain ⟨x, rfl, c⟩ := oneD.inv (show oneD ds _ from c)
    obtain ⟨xs, h, c⟩ := asSeq.inv c
    obtain ⟨is, h2, c⟩ := asInts.inv c
    obtain ⟨v, rfl, r1⟩ := r.one
    obtain ⟨a, us, rfl, sq, rs⟩ := seq_of rm r1 h
    have e := ints_rds rs h2
    subst e
    rcases sq with sq | sq
    · exact .inl ⟨a, is, rfl, sq, fin c rfl⟩
    · exact .inr ⟨a, is, rfl, sq, fin c rfl⟩
  | all =>
    obtain ⟨x, rfl, c⟩ := oneD.inv (show oneD ds _ from c)
    obtain ⟨xs, h, c⟩ := asLst.inv c
    obtain ⟨v, rfl, r1⟩ := r.one
    split at c <;> try contradiction
    rename_i is h2
    obtain ⟨a, us, rfl, sq, rs⟩ := lst_of rm r1 h
    have e := bls_rds rs h2
    subst e
    exact ⟨a, is, rfl, sq, fin c rfl⟩
  | any =>
    obtain ⟨x, rfl, c⟩ := oneD.inv (show oneD ds _ from c)
    obtain ⟨xs, h, c⟩ := asLst.inv c
    obtain ⟨v, rfl, r1⟩ := r.one
    split at c <;> try contradiction
    rename_i is h2
    obtain ⟨a, us, rfl, sq, rs⟩ := lst_of rm r1 h
    have e := bls_rds rs h2
    subst e
    exact ⟨a, is, rfl, sq, fin c rfl⟩
  | int =>
    obtain ⟨x, rfl, c1⟩ := oneD.inv (k := fun d => toIntD d fun d => Q d M) c
    clear c
    have c := c1
    clear c1
    obtain ⟨v, rfl, r1⟩ := r.one
    unfold toIntD at c
    split at c <;> try contradiction
    · cases r1
      exact .inl ⟨_, rfl, fin c rfl⟩
    · cases r1
      exact .inr (.inl ⟨_, rfl, fin c rfl⟩)
    · cases r1
      split at c <;> try contradiction
      rename_i n hn
      exact .inr (.inr ⟨_, n, rfl, hn, c.1, fin c.2 rfl⟩)
  | tuple =>
    obtain ⟨x, rfl, c1⟩ := oneD.inv (k := fun d => toTupD M d fun d => Q d M) c
    clear c
    have c := c1
    clear c1
    obtain ⟨v, rfl, r1⟩ := r.one
    unfold toTupD at c
    split at c <;> try contradiction
    · obtain ⟨a, us, rfl, t, rs⟩ := id r1
      exact .inl ⟨a, us, rfl, .inr ⟨t.sqt, fin c r1⟩⟩
    · obtain ⟨a, us, rfl, t, rs⟩ := id r1
      exact .inl ⟨a, us, rfl, .inl ⟨t.sql, fun l hl => new_tup rm rs c hq l hl⟩⟩
    · obtain ⟨a, rfl, ha⟩ := id r1
      split at c <;> try contradiction
      · rename_i xs hm
        obtain ⟨us, h1, h2⟩ := rm.get ha hm
        exact .inl ⟨a, us, rfl, .inl ⟨SqL.of h1, fun l hl => new_tup rm h2 c hq l hl⟩⟩
      · rename_i kvs hm
        obtain ⟨ws, h1, h2, h3⟩ := rm.get ha hm
        refine .inr ⟨a, ws, rfl, h1, fun l hl => new_tup rm ?_ c hq l hl⟩
        have e1 : (kvs.map fun kv => keyV kv.1) = (kvs.map (·.1)).map keyV := by rw [List.map_map]; rfl
        have e2 : (ws.map fun kv => kV kv.1) = (ws.map (·.1)).map kV := by rw [List.map_map]; rfl
        rw [e1, e2, h2]
        exact keys_rds _
  | list =>
    obtain ⟨x, rfl, c1⟩ := oneD.inv (k := fun d => toLstD M d fun d => Q d M) c
    clear c
    have c := c1
    clear c1
    obtain ⟨v, rfl, r1⟩ := r.one
    unfold toLstD at c
    split at c <;> try contradiction
    · obtain ⟨a, us, rfl, t, rs⟩ := id r1
      exact ⟨a, us, rfl, .inr t.sqt, fun l hl => new_lst rm rs c hq l hl⟩
    · obtain ⟨a, us, rfl, t, rs⟩ := id r1
      exact ⟨a, us, rfl, .inl t.sql, fun l hl => new_lst rm rs c hq l hl⟩
    · obtain ⟨a, rfl, ha⟩ := id r1
      split at c <;> try contradiction
      rename_i xs hm
      obtain ⟨us, h1, h2⟩ := rm.get ha hm
      exact ⟨a, us, rfl, .inl (SqL.of h1), fun l hl => new_lst rm h2 c hq l hl⟩
  | min1 =>
    obtain ⟨x, rfl, c⟩ := oneD.inv (show oneD ds _ from c)
    obtain ⟨xs, h, c⟩ := asSeq.inv c
    obtain ⟨is, h2, c⟩ := asInts.inv c
    obtain ⟨v, rfl, r1⟩ := r.one
    obtain ⟨a, us, rfl, sq, rs⟩ := seq_of rm r1 h
    have e := ints_rds rs h2
    subst e
    rcases sq with sq | sq
    · exact .inl ⟨a, is, rfl, sq, List.length_pos_iff.mpr c.1, fun m h3 h4 => fin (c.2 m h3 h4) rfl⟩
    · exact .inr ⟨a, is, rfl, sq, List.length_pos_iff.mpr c.1, fun m h3 h4 => fin (c.2 m h3 h4) rfl⟩
  | max1 =>
    obtain ⟨x, rfl, c⟩ := oneD.inv (show oneD ds _ from c)
    obtain ⟨xs, h, c⟩ := asSeq.inv c
    obtain ⟨is, h2, c⟩ := asInts.inv c
    obtain ⟨v, rfl, r1⟩ := r.one
    obtain ⟨a, us, rfl, sq, rs⟩ := seq_of rm r1 h
    have e := ints_rds rs h2
    subst e
    rcases sq with sq | sq
    · exact .inl ⟨a, is, rfl, sq, List.length_pos_iff.mpr c.1, fun m h3 h4 => fin (c.2 m h3 h4) rfl⟩
    · exact .inr ⟨a, is, rfl, sq, List.length_pos_iff.mpr c.1, fun m h3 h4 => fin (c.2 m h3 h4) rfl⟩
  | str =>
    obtain ⟨x, rfl, c⟩ := oneD.inv (show oneD ds _ from c)
    obtain ⟨i, rfl, c⟩ := asInt.inv c
    obtain ⟨v, rfl, r1⟩ := r.one
    cases r1
    exact ⟨_, rfl, c.1, fin c.2 rfl⟩
  | sorted =>
    obtain ⟨x, rfl, c⟩ := oneD.inv (show oneD ds _ from c)
    obtain ⟨xs, h, c⟩ := asLst.inv c
    obtain ⟨is, h2, c⟩ := asInts.inv c
    obtain ⟨v, rfl, r1⟩ := r.one
    obtain ⟨a, us, rfl, sq, rs⟩ := lst_of rm r1 h
    have e := ints_rds rs h2
    subst e
    exact ⟨a, is, rfl, sq, fun js p h3 h4 hp => new_lst rm (RDs.of_ints js) (c js h3 h4) hq p hp⟩
  | repr =>
    obtain ⟨x, rfl, c⟩ := oneD.inv (show oneD ds _ from c)
    obtain ⟨v, rfl, r1⟩ := r.one
    have c : (match pdM M x with | some p => ReprOk p ∧ Q (.str (rp p)) M | none => False) := c
    cases hp : pdM M x with
    | none => rw [hp] at c; exact c.elim
    | some p =>
      rw [hp] at c
      exact ⟨v, p, rfl, dp_ofM rm _ _ _ r1 hp, c.1, fin c.2 rfl⟩
theorem biV_boot : ∀ b : Bi, bootBuiltins (biS b) = some (biV b) := by
  intro b; cases b <;> decide +kernel
theorem bi_name : ∀ b : Bi, (Str.ofString (biS b) ≠ "__name__") ∧ ((Str.ofString (biS b)) == ("__debug__" : Str)) = false := by
  intro b; cases b <;> decide +kernel
/-- what the module says of the built-ins -/
structure BiOk (X : Cx) (rp : PyData → Str) : Prop where
  no : ∀ b : Bi, X.mg (biS b) = none
  rp : CallR X (.builtin "repr") (rReprD X.K rp)
theorem u_bi {Γ : Tab} {b : Bi} {e : Expr} {es : List Expr} {es' : Es} {p : Pos} (B : BiOk X Γ.rp) (hc : X.calm = true) (hu : X.A.units + 64 < cLine) (hg : Gl X (biS b)) (ha : PAU X cad W (e :: es) (wpEs Γ es'))
    (he : starEach (e :: es) X.env = (false, eval e X.env) :: starEach es X.env) (hpl : (backTo pos (starEach es X.env)).any (·.1) = false) : PEU X cad W (.Call (.Name (biS b) p) (e :: es) [] pos) (wpE Γ (.bi b es')) := by
  have ok := bi_ok hc hu B.rp b
  have bt := biV_boot b
  have up' := tCB_up (G := gx X cad) (W := W) (ta := wpEs Γ es') (r := rBi X.K Γ.rp b) (R := fun ds M Q => biD Γ.rp b ds M fun d => Q d M) fun ρ H α M Q Qv ds vs rm r c hq => bi_val rm r c hq
  unfold biV at ok bt
  by_cases ht : biTy b = true
  · rw [if_pos ht] at ok bt
    have q := (pe_callTy (p := p) (pos := pos) ok hg (B.no b) bt ha (bi_name b).1 (bi_name b).2 he hpl).mono up'
    simpa only [wpE] using q
  · rw [if_neg ht] at ok bt
    have q := (pe_callB (p := p) (pos := pos) ok hg (B.no b) bt ha (bi_name b).1 (bi_name b).2 he hpl).mono up'
    simpa only [wpE] using q
end
end AA
/-! AA5: calls, isinstance, walks, comprehensions. -/
namespace AA
open PySem PySem.Spec L2
open PyProof.Rows hiding St

/-- a def's promise -/
noncomputable def lsp (G : Gm) (f : Fn) : Sp := fun vs H Q E => ∃ ds ρ α M Q' X', RDs G ρ H α ds vs ∧ RM G ρ H α M ∧ ds.length = f.par.length ∧ f.sp ds M Q' X' ∧ (∀ d M', Q' d M' → wv G ρ α H Q d M') ∧
  (∀ c d M', X' c d M' → ∀ dx dv H' α', Nx [] α H α' H' → dx ∉ α' → dx ∉ ρ → H' dx = some (.xd [("value", dv)]) → RD G ρ H' α' d dv → RM G ρ H' α' M' → E (.ref (G.cad c)) (some dx) H')
theorem lsp_len {G : Gm} {f : Fn} {vs : List V} {H : Hp} {Q : VK} {E : XK} (h : lsp G f vs H Q E) : vs.length = f.par.length := by
  obtain ⟨ds, ρ, α, M, Q', X', r, rm, hl, _⟩ := h
  rw [← r.length, hl]
/-- a def keeps its promise wherever no display is under way -/
structure FnG (P : Program) (w : World) (K : PySem.W.Frag) (mg : Str → Option Value) (base : Heap) (k : Nat) (fa : Addr) (fd : FuncData) (ps : List Str) (sp : Sp) : Prop where
  len : ∀ vs H Q E, sp vs H Q E → vs.length = ps.length
  run : ∀ (A : Around) (callers : List Env) (s : Shared) (H : Hp) (args : Args) (us : List Value) (vs : List V) (Q : VK) (E : XK), A.guards = some [] → Room k A → Env0 P w K mg base A callers s H →
    BindsTo s fd args (ps.zip us) → Vals vs us → sp vs H Q E → codeAny (model P w) A (.call (.ref fa) args) (CR (L2.CX P w) callers P w H s Q E) s
theorem FnG.mono {P : Program} {w : World} {K : PySem.W.Frag} {mg : Str → Option Value} {base : Heap} {j k : Nat} {fa : Addr} {fd : FuncData} {ps : List Str} {sp : Sp} (F : FnG P w K mg base j fa fd ps sp) (h : j ≤ k) : FnG P w K mg base k fa fd ps sp :=
  ⟨F.len, fun A callers s H args us vs Q E hg hr => F.run A callers s H args us vs Q E hg (hr.mono h)⟩
/-- a def by its body -/
theorem fnG_of {P : Program} {w : World} {K : PySem.W.Frag} {mg : Str → Option Value} {base : Heap} {k : Nat} {x qual : Str} {st : Stmt} {fa : Addr} {fd : FuncData} {N ps : List Str} {sp : Sp} (Fu : Fun K x qual st fa fd) (S : FnScope N ps (defScope st))
    (len : ∀ vs H Q E, sp vs H Q E → vs.length = ps.length)
    (hbody : ∀ (cdv : Value) (A : Around) (callers : List Env) (s : Shared) (H : Hp) (vs : List V) (Q : VK) (E : XK), fd.code = cdv → A.guards = some [] → Room k (A.deeper (envOfC qual (defScope st) s.heap.objs.size fa cdv)) → sp vs H Q E →
      ∃ t, PSs (cxOf (L2.CX P w) P w K mg base N qual (defScope st) fa cdv A callers s H E) (defBody st) t ∧ t { nx := fun _ H1 => Q .non H1, rt := Q } (start N vs) H) : FnG P w K mg base (k + 1) fa fd ps sp := by
  obtain ⟨oc, od, kv, doc, pm, an, cdv, ct, osl, rfl, lk, hcd⟩ := Fu.ex
  refine ⟨len, fun A callers s H args us vs Q E gd hr e0 hb rv hsp => ?_⟩
  have KX : K.In s.heap := e0.mod.kin.keeps fun b o e => (e0.bs b o e).1
  have nol : s.heap.NoLimit := e0.mod.nolimit.keeps fun b o e => (e0.bs b o e).1
  have kinds : ∀ y ∈ ps.zip us, (defScope st).names.lookup y.1 = some .local ∨ ((defScope st).names.lookup y.1 = some .cell ∧ ((cellsFrom (s.heap.objs.size + 1) (defScope st).names []).lookup y.1).isSome = true) := fun y hy => by
    have hm : y.1 ∈ ps := (List.of_mem_zip (show (y.1, y.2) ∈ ps.zip us from hy)).1
    rcases S.par y.1 hm with q | q
    · exact Or.inl q
    · exact Or.inr ⟨q, PySem.W.cellsFrom_some _ _ _ (Or.inl q)⟩
  refine codeAny_call_function hr.depth (KX _ _ lk) rfl S.co S.gen rfl (PySem.W.codeRec_of KX hcd) (hb _ _ _ _ ?_)
  refine wpAny_newFunctionEnv_cells S.kind kinds fun env he s1 st1 => ?_
  subst he
  refine ⟨nol.keeps st1.toInCall.keep, codeAny_func ?_⟩
  obtain ⟨t, ht, hq⟩ := hbody cdv A callers s H vs Q E rfl gd (hr.deeper _) hsp
  have I0 := inv_start (CX := L2.CX P w) (P := P) (w := w) (E := E) S hr.hd e0 (len _ _ _ _ hsp) rv st1
  refine wpAny_mono (ht.run [] s1 (start N vs) H _ I0 hq) (fun fl s2 hs => ?_) fun _ _ hs => hs
  cases fl with
  | ret u =>
    obtain ⟨v, σ1, H1, J, r1, q⟩ := hs
    exact ⟨v, H1, J.os, J.bare, J.base, J.hok, r1, q⟩
  | next =>
    obtain ⟨σ1, H1, J, q⟩ := hs
    exact ⟨V.non, H1, J.os, J.bare, J.base, J.hok, rfl, q⟩
  | brk => obtain ⟨_, _, _, q⟩ := hs; exact q.elim
  | cont => obtain ⟨_, _, _, q⟩ := hs; exact q.elim
/-- where a def stands: a name of the module, or a class -/
noncomputable def AtN (K : PySem.W.Frag) (cad : Cad) (mg : Str → Option Value) (f : Fn) (fa : Addr) : Prop := match f.own with
  | none => mg f.name = some (.ref fa) ∧ PySem.W.keepIn K (.ref fa) = true
  | some (c, .init, _) => mg f.name = some (.ref (cad c)) ∧ Mk K (cad c) fa
  | some (c, .meth, m) => Cls K (cad c) ∧ Meth K (cad c) m fa
  | some (c, .prop, m) => Cls K (cad c) ∧ ∃ p, PropOf K (cad c) m p fa
theorem AtN.glob {K : PySem.W.Frag} {cad : Cad} {mg : Str → Option Value} {f : Fn} {fa : Addr} (h : AtN K cad mg f fa) (e : f.own = none) : mg f.name = some (.ref fa) ∧ PySem.W.keepIn K (.ref fa) = true := by
  unfold AtN at h; rw [e] at h; exact h
theorem AtN.init {K : PySem.W.Frag} {cad : Cad} {mg : Str → Option Value} {f : Fn} {fa : Addr} {c : Nat} {m : Str} (h : AtN K cad mg f fa) (e : f.own = some (c, .init, m)) : mg f.name = some (.ref (cad c)) ∧ Mk K (cad c) fa := by
  unfold AtN at h; rw [e] at h; exact h
theorem AtN.meth {K : PySem.W.Frag} {cad : Cad} {mg : Str → Option Value} {f : Fn} {fa : Addr} {c : Nat} {m : Str} (h : AtN K cad mg f fa) (e : f.own = some (c, .meth, m)) : Cls K (cad c) ∧ Meth K (cad c) m fa := by
  unfold AtN at h; rw [e] at h; exact h
theorem AtN.prop {K : PySem.W.Frag} {cad : Cad} {mg : Str → Option Value} {f : Fn} {fa : Addr} {c : Nat} {m : Str} (h : AtN K cad mg f fa) (e : f.own = some (c, .prop, m)) : Cls K (cad c) ∧ ∃ p, PropOf K (cad c) m p fa := by
  unfold AtN at h; rw [e] at h; exact h
/-- a make and a getter take one call more -/
noncomputable def slack (f : Fn) : Nat := match f.own with
  | some (_, .init, _) => 1
  | some (_, .prop, _) => 1
  | _ => 0
/-- a def of the module keeps its promise -/
structure FnI (P : Program) (w : World) (K : PySem.W.Frag) (cad : Cad) (mg : Str → Option Value) (base : Heap) (L : Nat) (f : Fn) : Prop where
  dbg : (f.name == ("__debug__" : Str)) = false
  exs : ∃ (fa : Addr) (fd : FuncData) (L' : Nat), L' + slack f ≤ L ∧ FnG P w K mg base L' fa fd f.par (lsp ⟨K, cad⟩ f) ∧ AtN K cad mg f fa ∧ Binds K fd f.par [] ∧
    (f.kw = true → ∀ (s : Shared) (ws : List Value), K.In s.heap → ws.length = f.par.length → BindsTo s fd ⟨[], f.par.zip ws⟩ (f.par.zip ws))
theorem FnI.ex {P : Program} {w : World} {K : PySem.W.Frag} {cad : Cad} {mg : Str → Option Value} {base : Heap} {L : Nat} {f : Fn} (I : FnI P w K cad mg base L f) : ∃ (fa : Addr) (fd : FuncData), FnG P w K mg base L fa fd f.par (lsp ⟨K, cad⟩ f) ∧ AtN K cad mg f fa ∧ Binds K fd f.par [] ∧
    (f.kw = true → ∀ (s : Shared) (ws : List Value), K.In s.heap → ws.length = f.par.length → BindsTo s fd ⟨[], f.par.zip ws⟩ (f.par.zip ws)) := by
  obtain ⟨fa, fd, L', h, F, r⟩ := I.exs
  exact ⟨fa, fd, F.mono (by omega), r⟩
theorem FnI.ex1 {P : Program} {w : World} {K : PySem.W.Frag} {cad : Cad} {mg : Str → Option Value} {base : Heap} {L : Nat} {f : Fn} (I : FnI P w K cad mg base L f) (e : slack f = 1) : ∃ (fa : Addr) (fd : FuncData) (L' : Nat), L' + 1 ≤ L ∧ FnG P w K mg base L' fa fd f.par (lsp ⟨K, cad⟩ f) ∧ AtN K cad mg f fa ∧ Binds K fd f.par [] ∧
    (f.kw = true → ∀ (s : Shared) (ws : List Value), K.In s.heap → ws.length = f.par.length → BindsTo s fd ⟨[], f.par.zip ws⟩ (f.par.zip ws)) := by
  obtain ⟨fa, fd, L', h, r⟩ := I.exs
  rw [e] at h
  exact ⟨fa, fd, L', h, r⟩
theorem FnI.mono {P : Program} {w : World} {K : PySem.W.Frag} {cad : Cad} {mg : Str → Option Value} {base : Heap} {j k : Nat} {f : Fn} (I : FnI P w K cad mg base j f) (h : j ≤ k) : FnI P w K cad mg base k f := by
  obtain ⟨d, fa, fd, L', h', r⟩ := I
  exact ⟨d, fa, fd, L', by omega, r⟩
/-- the call's end, taken -/
theorem call_end {X : Cx} {W : WX} {pins : List (Addr × Obj)} {σ : L2.St} {H : Hp} {s : Shared} {Q : VK} (tk : Takes X W) (I : Inv X pins σ H s) {A : Around} {c : Code} (h : codeAny (model X.prog X.w) A c (CR (L2.CX X.prog X.w) X.stack X.prog X.w H s Q (WE W σ)) s) :
    codeAny (model X.prog X.w) A c (wants (EP X pins σ Q) X.xe) s := by
  refine codeAny_mono h fun r s2 hq => ?_
  cases r with
  | error e => exact passAt tk σ pins H s e s2 I hq
  | ok fl =>
    cases fl with
    | ret u => exact I.after hq
    | next => exact False.elim hq
    | brk => exact False.elim hq
    | cont => exact False.elim hq
theorem run_fnG {X : Cx} {W : WX} {pins : List (Addr × Obj)} {σ : L2.St} {H : Hp} {s : Shared} {Q : VK} {us : List Value} {vs : List V} {k : Nat} {fa : Addr} {fd : FuncData} {ps : List Str} {sp : Sp} (F : FnG X.prog X.w X.K X.mg X.base k fa fd ps sp) (gd : X.A.guards = some [])
    (hr : Room k X.A) (hb : Binds X.K fd ps []) (tk : Takes X W) (I : Inv X pins σ H s) (r : Vals vs us) (h : sp vs H Q (WE W σ)) : wpAny (model X.prog X.w) X.A (call (.ref fa) us) (EP X pins σ Q) X.xe s := by
  have b := hb s us I.kIn (by rw [List.append_nil, ← r.length]; exact F.len _ _ _ _ h)
  rw [List.append_nil] at b
  exact wpAny_call (call_end tk I (F.run X.A X.stack s H ⟨us, []⟩ us vs Q (WE W σ) gd hr I.env0 b r h))
section
variable {X : Cx} {cad : Cad} {W : WX} {pos : Pos}
theorem u_call {Γ : Tab} {k L : Nat} {f : Fn} {e : Expr} {es : List Expr} {es' : Es} {p : Pos} (hf : Γ.fn[k]? = some f) (how : f.own = none) (I : FnI X.prog X.w X.K cad X.mg X.base L f) (gd : X.A.guards = some []) (hr : Room L X.A) (tk : Takes X W) (hg : Gl X f.name) (ha : PAU X cad W (e :: es) (wpEs Γ es'))
    (he : starEach (e :: es) X.env = (false, eval e X.env) :: starEach es X.env) (hpl : (backTo pos (starEach es X.env)).any (·.1) = false) : PEU X cad W (.Call (.Name f.name p) (e :: es) [] pos) (wpE Γ (.call k es')) := by
  obtain ⟨fa, fd, F, hat, hb, _⟩ := I.ex
  obtain ⟨hm, hk⟩ := hat.glob how
  refine ⟨fun pins s σ H Qv I0 ⟨ρ, δ, α, M, Q', X', rs, rm, t, hq, hx⟩ => ?_⟩
  simp only [wpE] at t
  refine wpAny_Call_Name_kw (ld_glob I0 hg hm ?_ I.dbg)
  refine PySem.W.callWith_K (h₀ := X.base) I0.ok.mod.kin hk (thn (ha.run pos pins s σ H (fun zs H2 => lsp ⟨X.K, cad⟩ f zs H2 Qv (WE W σ)) I0 ⟨ρ, δ, α, M, _, _, rs, rm, t, fun ds M1 q vs H1 α1 n1 r1 m1 => ?_, hx⟩) fun us s1 ⟨vs, H1, I1, r, q⟩ => ⟨I1.kIn, run_fnG F gd hr hb tk I1 r q⟩) he hpl
  obtain ⟨f', hf', hl, q'⟩ := q.inv
  rw [hf] at hf'; cases hf'
  exact ⟨ds, ρ, α1, M1, _, _, r1, m1, hl, q', fun d M' z => (hq d M' z).nx n1, fun c d M' x => (hx c d M' x).nx n1⟩
theorem u_call0 {Γ : Tab} {k L : Nat} {f : Fn} {p : Pos} (hf : Γ.fn[k]? = some f) (how : f.own = none) (I : FnI X.prog X.w X.K cad X.mg X.base L f) (gd : X.A.guards = some []) (hr : Room L X.A) (tk : Takes X W) (hg : Gl X f.name) : PEU X cad W (.Call (.Name f.name p) [] [] pos) (wpE Γ (.call k .nil)) := by
  obtain ⟨fa, fd, F, hat, hb, _⟩ := I.ex
  obtain ⟨hm, hk⟩ := hat.glob how
  refine ⟨fun pins s σ H Qv I0 ⟨ρ, δ, α, M, Q', X', rs, rm, t, hq, hx⟩ => ?_⟩
  simp only [wpE, wpEs] at t
  obtain ⟨f', hf', hl, q'⟩ := t.inv
  rw [hf] at hf'; cases hf'
  refine wpAny_Call_Name_kw (ld_glob I0 hg hm ?_ I.dbg)
  exact PySem.W.callWith_K0 I0.kIn hk (run_fnG (us := []) F gd hr hb tk I0 .nil ⟨[], ρ, α, M, _, _, RDs.nil, rm, hl, q', hq, hx⟩)
/-- keywords' values -/
noncomputable abbrev PKU (X : Cx) (cad : Cad) (W : WX) (e : List Keyword) (t : TAD) : Prop := PK X e (upa (gx X cad) W t)
theorem PKmono {X : Cx} {e : List Keyword} {t t' : TA} (h : PK X e t) (f : ∀ σ H Q, t' σ H Q → t σ H Q) : PK X e t' := ⟨fun p pins s σ H Q I q => h.run p pins s σ H Q I (f _ _ _ q)⟩
theorem k_nil {Γ : Tab} : PKU X cad W [] (wpEs Γ .nil) := PKmono pk_nil fun σ H Qv ⟨ρ, δ, α, M, Q', X', rs, rm, t, hq, hx⟩ => hq _ _ (by simpa only [wpEs] using t) _ _ _ (Nx.refl ..) RDs.nil rm
theorem k_cons {Γ : Tab} {e : Expr} {es : List Keyword} {e' : E} {es' : Es} {nm : Option Str} {kp : Pos} (h1 : PEU X cad W e (wpE Γ e')) (h2 : PKU X cad W es (wpEs Γ es')) : PKU X cad W (⟨nm, e, kp⟩ :: es) (wpEs Γ (.cons e' es')) := by
  refine PKmono (pk_cons (nm := nm) (kpos := kp) h1 h2) fun σ H Qv ⟨ρ, δ, α, M, Q', X', rs, rm, t, hq, hx⟩ => ?_
  simp only [wpEs] at t
  refine ⟨ρ, δ, α, M, _, _, rs, rm, t, fun x M1 q v H1 α1 n1 r1 m1 => ?_, hx⟩
  refine ⟨ρ, δ, α1, M1, _, _, rs.nx n1, m1, q, fun ys M2 q2 us H2 α2 n2 r2 m2 => ?_, fun c d M' x => (hx c d M' x).nx n1⟩
  exact hq _ _ q2 _ _ _ (n1.trans n2) (RDs.cons (r1.nx n2) r2) m2
theorem u_callk {Γ : Tab} {k L : Nat} {f : Fn} {kws : List Keyword} {ks' : Es} {p : Pos} (hf : Γ.fn[k]? = some f) (how : f.own = none) (I : FnI X.prog X.w X.K cad X.mg X.base L f) (hkw : f.kw = true) (gd : X.A.guards = some []) (hr : Room L X.A) (tk : Takes X W) (hg : Gl X f.name) (ha : PKU X cad W kws (wpEs Γ ks'))
    (hall : (backToKw pos (keywordEach kws X.env)).all (·.1.isSome) = true) (hks : (backToKw pos (keywordEach kws X.env)).filterMap (·.1) = f.par)
    (hpl : ((backTo pos (starEach [] X.env)).any (·.1) || (backToKw pos (keywordEach kws X.env)).any (·.1.isNone)) = false) : PEU X cad W (.Call (.Name f.name p) [] kws pos) (wpE Γ (.callk k .nil ks')) := by
  obtain ⟨fa, fd, F, hat, _, hb⟩ := I.ex
  obtain ⟨hm, hk⟩ := hat.glob how
  refine ⟨fun pins s σ H Qv I0 ⟨ρ, δ, α, M, Q', X', rs, rm, t, hq, hx⟩ => ?_⟩
  simp only [wpE, wpEs, List.nil_append] at t
  refine wpAny_Call_Name_kw (ld_glob I0 hg hm ?_ I.dbg)
  refine PySem.W.callWith_KW0 (h₀ := X.base) I0.ok.mod.kin hk hall (thn (ha.run pos pins s σ H (fun zs H2 => lsp ⟨X.K, cad⟩ f zs H2 Qv (WE W σ)) I0 ⟨ρ, δ, α, M, _, _, rs, rm, t, fun ds M1 q vs H1 α1 n1 r1 m1 => ?_, hx⟩) fun ws s2 ⟨zs, H2, I2, rz, q2⟩ => ⟨I2.kIn, ?_⟩) hpl
  · obtain ⟨f', hf', hl, q'⟩ := q.inv
    rw [hf] at hf'; cases hf'
    exact ⟨ds, ρ, α1, M1, _, _, r1, m1, hl, q', fun d M' z => (hq d M' z).nx n1, fun c d M' x => (hx c d M' x).nx n1⟩
  · rw [hks]
    have hl := lsp_len q2
    have hl' : ws.length = f.par.length := by rw [← rz.length]; exact hl
    exact wpAny_call (call_end tk I2 (F.run X.A X.stack s2 H2 ⟨[], f.par.zip ws⟩ ws zs Qv (WE W σ) gd hr I2.env0 (hb hkw s2 ws I2.kIn hl') rz q2))

/-! ### isinstance -/
noncomputable def tyS : Ty → String
  | .int => "int" | .bool => "bool" | .str => "str" | .tuple => "tuple" | .list => "list" | .dict => "dict" | .own _ => "" | .bi n => n
/-- the type's name of a plain datum -/
noncomputable def tyN (M : Mem) : D → Option String
  | .non => some "NoneType" | .bl _ => some "bool" | .int _ => some "int" | .str _ => some "str" | .tup _ => some "tuple" | .lst _ => some "list"
  | .ref n => match M[n]? with | some (.lst _) => some "list" | some (.dct _) => some "dict" | _ => none
  | .exc _ _ => none
  | .dic0 => some "dict"
  | .dts _ => none
theorem tyN_of {ρ : List Addr} {H : Hp} {α : List Addr} {M : Mem} {d : D} {v : V} {n : String} (rm : RM (gx X cad) ρ H α M) (r : RD (gx X cad) ρ H α d v) (e : tyN M d = some n) : TyX X.K H v (.type n) := by
  cases d with
  | non => cases r; cases e; exact .base .non
  | bl _ => cases r; cases e; exact .base (.bl _)
  | int _ => cases r; cases e; exact .base (.int _)
  | str _ => cases r; cases e; exact .base (.str _)
  | tup _ =>
    obtain ⟨a, vs, rfl, t, rs⟩ := r; cases e
    rcases t with ⟨_, _, h | ⟨o, h⟩⟩ | ⟨o, its, n, h1, h2, _⟩
    · exact .base (.tup h)
    · exact .fTuple h
    · exact .kTuple h1 h2
  | lst _ =>
    obtain ⟨a, vs, rfl, t, rs⟩ := r; cases e
    rcases t with ⟨_, _, h | ⟨o, h⟩⟩ | ⟨o, its, n, h1, h2, _⟩
    · exact .base (.lst h)
    · exact .base (.frz h)
    · exact .kList h1 h2
  | ref k =>
    obtain ⟨a, rfl, ha⟩ := r
    simp only [tyN] at e
    split at e <;> try contradiction
    · rename_i xs hm
      cases e
      obtain ⟨us, h1, h2⟩ := rm.get ha hm
      exact .base (.lst h1)
    · rename_i xs hm
      cases e
      obtain ⟨us, h1, h2⟩ := rm.get ha hm
      exact .base (.dK h1)
  | exc _ _ => cases e
  | dts _ => cases e
  | dic0 =>
    obtain ⟨a, rfl, _, _, h | ⟨o, h⟩⟩ := r <;> cases e
    · exact .base (.dK h)
    · exact .fDict h
/-- T's answers for plain data -/
noncomputable def tyA : Ty → String → Option Bool
  | .own _, _ => none
  | .bi _, _ => none
  | t, n => kitB n (tyS t)
noncomputable def isTy : Ty → Bool
  | .own _ => false | .bi _ => false | _ => true
theorem tyS_boot : ∀ t : Ty, isTy t = true → bootBuiltins (tyS t) = some (.type (tyS t)) ∧ (Str.ofString (tyS t) ≠ "__name__") ∧ ((Str.ofString (tyS t)) == ("__debug__" : Str)) = false := by
  intro t h
  cases t <;> first | decide +kernel | (exfalso; simp [isTy] at h; done)
theorem isi_boot : bootBuiltins "isinstance" = some (.builtin "isinstance") := by decide +kernel
theorem isiD_plain {t : Ty} (h : isTy t = true) {x : D} {M : Mem} {nc : Nat} {sub : Nat → Nat → Bool} {k : Bool → Prop} (c : isiD nc t x M sub k) : ∃ n b, tyN M x = some n ∧ kitB n (tyS t) = some b ∧ k b := by
  cases t <;> first | (exfalso; simp [isTy] at h; done) | (
    cases x <;> (conv at c => whnf) <;> first
      | exact c.elim
      | exact ⟨_, _, rfl, (by decide +kernel), c⟩
      | (split at c
         · rename_i xs hm
           exact ⟨"list", _, (by simp only [tyN, hm]), (by decide +kernel), c⟩
         · exact c.elim))
theorem u_isi {Γ : Tab} {t : Ty} {a : Expr} {a' : E} {p p2 : Pos} (ht : isTy t = true) (hm : X.mg "isinstance" = none) (hm2 : X.mg (tyS t) = none) (hg : Gl X "isinstance") (hg2 : Gl X (tyS t)) (ha : PEU X cad W a (wpE Γ a'))
    (hs : starEach [a, .Name (tyS t) p2] X.env = (false, eval a X.env) :: starEach [.Name (tyS t) p2] X.env) : PEU X cad W (.Call (.Name "isinstance" p) [a, .Name (tyS t) p2] [] pos) (wpE Γ (.isi a' t)) := by
  obtain ⟨b1, b2, b3⟩ := tyS_boot t ht
  have q := pe_callB (p := p) (pos := pos) call_isi hg hm isi_boot (pa_cons ha (pa_cons (pe_bltn (pos := p2) hg2 hm2 b1 (v := .ty (tyS t)) rfl b2 b3) pa_nil (by rfl)) hs) (by decide) (by decide) hs (by rfl)
  refine q.mono fun σ H Qv ⟨ρ, δ, α, M, Q', X', rs, rm, t0, hq, hx⟩ => ?_
  simp only [wpE] at t0
  refine ⟨ρ, δ, α, M, _, _, rs, rm, t0, fun x M1 q v H1 α1 n1 r1 m1 => ?_, hx⟩
  obtain ⟨n, b, h1, h2, h3⟩ := isiD_plain ht q
  exact ⟨v, _, _, _, b, rfl, .ty _, tyN_of m1 r1 h1, kit_ty h2, hq _ _ h3 _ _ _ n1 rfl m1⟩

/-! ### walks -/
theorem Own.rho {ρ α : List Addr} {H : Hp} {p a : Addr} {o u : HO} (w : Own ρ H α a u) (h : H p = none) : Own (p :: ρ) (upd H p o) α a u := by
  obtain ⟨h1, h2, h3⟩ := w
  have n : a ≠ p := by
    rcases h3 with h3 | ⟨z, h3⟩
    · exact ne_of_none h3 h
    · exact ne_of_none h3 h
  refine ⟨h1, by simp [n, h2], ?_⟩
  rcases h3 with h3 | ⟨z, h3⟩
  · exact .inl (by rw [upd_ne n]; exact h3)
  · exact .inr ⟨z, by rw [upd_ne n]; exact h3⟩
theorem TupAt.rho {K : PySem.W.Frag} {ρ α : List Addr} {H : Hp} {p a : Addr} {o : HO} {vs : List V} (w : TupAt K ρ H α a vs) (h : H p = none) : TupAt K (p :: ρ) (upd H p o) α a vs := by
  rcases w with w | w
  · exact .inl (w.rho h)
  · exact .inr w
theorem LstAt.rho {K : PySem.W.Frag} {ρ α : List Addr} {H : Hp} {p a : Addr} {o : HO} {vs : List V} (w : LstAt K ρ H α a vs) (h : H p = none) : LstAt K (p :: ρ) (upd H p o) α a vs := by
  rcases w with w | w
  · exact .inl (w.rho h)
  · exact .inr w
mutual
theorem RD.rho {G : Gm} {ρ α : List Addr} {H : Hp} {p : Addr} {o : HO} (h : H p = none) : ∀ (d : D) (v : V), RD G ρ H α d v → RD G (p :: ρ) (upd H p o) α d v
  | .non, v, r => r
  | .bl _, v, r => r
  | .int _, v, r => r
  | .str _, v, r => r
  | .tup xs, v, r => by
    obtain ⟨a, vs, e, t, rs⟩ := r
    exact ⟨a, vs, e, t.rho h, RDs.rho h xs vs rs⟩
  | .lst xs, v, r => by
    obtain ⟨a, vs, e, t, rs⟩ := r
    exact ⟨a, vs, e, t.rho h, RDs.rho h xs vs rs⟩
  | .ref k, v, r => r
  | .dic0, v, r => by
    obtain ⟨a, e, t⟩ := r
    exact ⟨a, e, t.rho h⟩
  | .dts ks, v, r => by
    obtain ⟨a, L, e, t, h1, h2⟩ := r
    exact ⟨a, L, e, t.rho h, h1, fun p hp => (h2 p hp).rho h⟩
  | .exc c d, v, r => by
    obtain ⟨a, dx, dv, e, na, ra, ha, nd, rd, hd, r⟩ := r
    have n1 : a ≠ p := ne_of_none ha h
    have n2 : dx ≠ p := ne_of_none hd h
    exact ⟨a, dx, dv, e, na, by simp [n1, ra], by rw [upd_ne n1]; exact ha, nd, by simp [n2, rd], by rw [upd_ne n2]; exact hd, RD.rho h d dv r⟩
theorem RDs.rho {G : Gm} {ρ α : List Addr} {H : Hp} {p : Addr} {o : HO} (h : H p = none) : ∀ (ds : List D) (vs : List V), RDs G ρ H α ds vs → RDs G (p :: ρ) (upd H p o) α ds vs
  | [], vs, r => r
  | d :: ds, vs, r => by
    obtain ⟨v, vs', e, r1, rs⟩ := r
    exact ⟨v, vs', e, RD.rho h d v r1, RDs.rho h ds vs' rs⟩
end
/-- an iterator that yields the items while stay holds, and what it leans on is there -/
noncomputable def Gives (G : Gm) (J : It) (xs : List D) (stay : Mem → Prop) (ks : List D) (vs : List V) : Prop :=
  ∃ (Gd : Hp → Prop) (Y : Nat → Hp → V → Hp → Prop), Walk J xs.length Gd Y ∧ (∀ ρ H α M, RDs G ρ H α ks vs → RM G ρ H α M → stay M → Gd H) ∧
    (∀ ρ i H x H' α M, RDs G ρ H α ks vs → RM G ρ H α M → stay M → i < xs.length → Y i H x H' → ∃ d, xs[i]? = some d ∧ Nx [] α H α H' ∧ RD G ρ H' α d x ∧ RM G ρ H' α M)
noncomputable def upi (G : Gm) (W : WX) (t : Dst → Mem → IK → XD → Prop) : TI := fun σ H R => ∃ ρ δ α M Q' X', RS G ρ H α δ σ ∧ RM G ρ H α M ∧ t δ M Q' X' ∧
  (∀ xs stay M', Q' xs stay M' → ∀ J H' α' ks vs, Nx [] α H α' H' → RM G ρ H' α' M' → RDs G ρ H' α' ks vs → Gives G J xs stay ks vs → R J H') ∧ (∀ c d M', X' c d M' → wx G W ρ α H σ c d M')
noncomputable abbrev PIU (X : Cx) (cad : Cad) (W : WX) (tg e : Expr) (t : Dst → Mem → IK → XD → Prop) : Prop := PI X tg e (upi (gx X cad) W t)
theorem PImono {X : Cx} {tg e : Expr} {t t' : TI} (h : PI X tg e t) (f : ∀ σ H Q, t' σ H Q → t σ H Q) : PI X tg e t' := ⟨fun pins s σ H Q I q => h.run pins s σ H Q I (f _ _ _ q)⟩
/-- a list or a tuple walked -/
noncomputable def iSeq (K : PySem.W.Frag) (tl : TE) : TI := fun σ H R => tl σ H fun x H1 => ∃ a, x = .ref a ∧ (((∃ xs, SqL K H1 a xs) ∧ R (Itl K a) H1) ∨ ((∃ xs, SqT K H1 a xs) ∧ R (Itt K a) H1))
theorem pi_seq {tg l : Expr} {tl : TE} (hl : PE X l tl) : PI X tg l (iSeq X.K tl) := by
  refine ⟨fun pins s σ H R I h => ?_⟩
  refine thn (hl.run pins s σ H _ I h) fun v s1 ⟨x, H1, I1, r1, q1⟩ => ?_
  obtain ⟨a, e, q1⟩ := q1
  subst e
  cases r1
  rcases q1 with ⟨⟨xs, hq⟩, q⟩ | ⟨⟨xs, hq⟩, q⟩
  · obtain ⟨its, rv, p, hz⟩ := I1.list hq
    refine wpAny_pyIter_list p.isList ?_
    refine ⟨s1.heap.objs.size, [s1.heap.objs.size], _, _, H1, rfl, I1.kept (t' := s1.toks) fun b o e => Heap.get?_push_of_some _ e, turn_list a _, ⟨_, Heap.get?_push_size _ rfl, rfl, rfl⟩, fun b hb => ?_, q⟩
    have e : b = s1.heap.objs.size := by simpa using hb
    subst e
    exact I1.fpOk (Nat.le_refl _) (I1.hok.fresh (Nat.le_refl _))
  · obtain ⟨its, rv, p, hz⟩ := I1.tuple hq
    refine wpAny_pyIter_tuple (show s1.heap.IsTuple a its.toArray from p) ?_
    refine ⟨s1.heap.objs.size, [s1.heap.objs.size], _, _, H1, rfl, I1.kept (t' := s1.toks) fun b o e => Heap.get?_push_of_some _ e, turn_tuple a _, ⟨_, Heap.get?_push_size _ rfl, rfl, rfl⟩, fun b hb => ?_, q⟩
    have e : b = s1.heap.objs.size := by simpa using hb
    subst e
    exact I1.fpOk (Nat.le_refl _) (I1.hok.fresh (Nat.le_refl _))
/-- the items of a datum at any later time -/
theorem seq_at {G : Gm} {ρ α : List Addr} {H : Hp} {M : Mem} (rm : RM G ρ H α M) {d : D} {a : Addr} {xs : List D} (r : RD G ρ H α d (.ref a)) (e : seqD M d = some xs) :
    (∃ vs, SqL G.K H a vs ∧ RDs G ρ H α xs vs ∧ (∀ ys, d ≠ .tup ys)) ∨ (∃ vs, SqT G.K H a vs ∧ RDs G ρ H α xs vs ∧ ∃ ys, d = .tup ys) := by
  cases d with
  | tup ys => obtain ⟨b, vs, e1, t, rs⟩ := r; cases e; cases e1; exact .inr ⟨vs, t.sqt, rs, _, rfl⟩
  | lst ys => obtain ⟨b, vs, e1, t, rs⟩ := r; cases e; cases e1; exact .inl ⟨vs, t.sql, rs, fun _ z => by cases z⟩
  | ref n =>
    obtain ⟨b, e1, ha⟩ := r
    cases e1
    simp only [seqD] at e
    split at e <;> try contradiction
    rename_i ys hm
    cases e
    obtain ⟨vs, h1, h2⟩ := rm.get ha hm
    exact .inl ⟨vs, SqL.of h1, h2, fun _ z => by cases z⟩
  | _ => cases e
theorem gives_seq {G : Gm} {d : D} {a : Addr} {xs : List D} : ((∀ ys, d ≠ .tup ys) → Gives G (Itl G.K a) xs (stayD d xs) [d] [.ref a]) ∧ ((∃ ys, d = .tup ys) → Gives G (Itt G.K a) xs (stayD d xs) [d] [.ref a]) := by
  constructor
  · intro hd
    refine ⟨fun H => ∃ vs, SqL G.K H a vs ∧ vs.length = xs.length, fun i H x H' => H' = H ∧ ∃ vs, SqL G.K H a vs ∧ vs.length = xs.length ∧ ∀ us, SqL G.K H a us → us[i]? = some x, ⟨fun i H hi ⟨vs, h1, h2⟩ => ?_, fun H ⟨vs, h1, h2⟩ => ⟨vs, h1, by omega⟩, fun i H x H' hi ⟨vs, h1, h2⟩ y => ⟨y.1, vs, h1, h2, y.2⟩⟩, fun ρ H α M r rm st => ?_, fun ρ i H x H' α M r rm st hi ⟨e, vs, h1, h2, h3⟩ => ?_⟩
    · exact ⟨vs, vs[i]'(by omega), h1, List.getElem?_eq_getElem _⟩
    · obtain ⟨v, rfl', r1⟩ := r.one
      cases rfl'
      rcases seq_at rm r1 st with ⟨vs, h1, h2, _⟩ | ⟨_, _, _, ys, e⟩
      · exact ⟨vs, h1, h2.length.symm⟩
      · exact absurd e (hd ys)
    · subst e
      obtain ⟨v, rfl', r1⟩ := r.one
      cases rfl'
      rcases seq_at rm r1 st with ⟨us, k1, k2, _⟩ | ⟨_, _, _, ys, e⟩
      · obtain ⟨e, h5, h6⟩ := k2.get' (h3 us k1)
        exact ⟨e, h5, Nx.refl .., h6, rm⟩
      · exact absurd e (hd ys)
  · rintro ⟨ys, rfl⟩
    refine ⟨fun H => ∃ vs, SqT G.K H a vs ∧ vs.length = xs.length, fun i H x H' => H' = H ∧ ∃ vs, SqT G.K H a vs ∧ vs.length = xs.length ∧ ∀ us, SqT G.K H a us → us[i]? = some x, ⟨fun i H hi ⟨vs, h1, h2⟩ => ?_, fun H ⟨vs, h1, h2⟩ => ⟨vs, h1, by omega⟩, fun i H x H' hi ⟨vs, h1, h2⟩ y => ⟨y.1, vs, h1, h2, y.2⟩⟩, fun ρ H α M r rm st => ?_, fun ρ i H x H' α M r rm st hi ⟨e, vs, h1, h2, h3⟩ => ?_⟩
    · exact ⟨vs, vs[i]'(by omega), h1, List.getElem?_eq_getElem _⟩
    · obtain ⟨v, rfl', r1⟩ := r.one
      cases rfl'
      rcases seq_at rm r1 st with ⟨vs, h1, h2, h3⟩ | ⟨vs, h1, h2, _⟩
      · exact absurd rfl (h3 ys)
      · exact ⟨vs, h1, h2.length.symm⟩
    · subst e
      obtain ⟨v, rfl', r1⟩ := r.one
      cases rfl'
      rcases seq_at rm r1 st with ⟨us, k1, k2, k3⟩ | ⟨us, k1, k2, _⟩
      · exact absurd rfl (k3 ys)
      · obtain ⟨e, h5, h6⟩ := k2.get' (h3 us k1)
        exact ⟨e, h5, Nx.refl .., h6, rm⟩
theorem i_seq {Γ : Tab} {tg e : Expr} {e' : E} (h : PEU X cad W e (wpE Γ e')) : PIU X cad W tg e (wpI Γ (.seq e')) := by
  refine PImono (pi_seq h) fun σ H R ⟨ρ, δ, α, M, Q', X', rs, rm, t, hq, hx⟩ => ?_
  simp only [wpI] at t
  refine ⟨ρ, δ, α, M, _, _, rs, rm, t, fun x M1 q v H1 α1 n1 r1 m1 => ?_, hx⟩
  obtain ⟨xs, e, q'⟩ := q.inv
  obtain ⟨a, vs, rfl, sq, rs1⟩ := seq_of m1 r1 e
  refine ⟨a, rfl, ?_⟩
  by_cases hd : ∃ ys, x = .tup ys
  · have hg := (gives_seq (G := gx X cad) (d := x) (a := a) (xs := xs)).2 hd
    refine .inr ⟨?_, hq _ _ _ q' _ _ _ [x] [.ref a] n1 m1 (RDs.cons r1 .nil) hg⟩
    rcases seq_at m1 r1 e with ⟨us, k1, k2, k3⟩ | ⟨us, k1, k2, _⟩
    · obtain ⟨ys, e2⟩ := hd; exact absurd e2 (k3 ys)
    · exact ⟨us, k1⟩
  · have hg := (gives_seq (G := gx X cad) (d := x) (a := a) (xs := xs)).1 fun ys z => hd ⟨ys, z⟩
    refine .inl ⟨?_, hq _ _ _ q' _ _ _ [x] [.ref a] n1 m1 (RDs.cons r1 .nil) hg⟩
    rcases seq_at m1 r1 e with ⟨us, k1, k2, k3⟩ | ⟨us, k1, k2, z⟩
    · exact ⟨us, k1⟩
    · exact absurd z hd
theorem rngL_get {lo : Int} {n i : Nat} (h : i < n) : (rngL lo n)[i]? = some (.int (lo + (i : Nat))) := by
  unfold rngL
  rw [List.getElem?_map, List.getElem?_range h]; rfl
theorem rngL_length {lo : Int} {n : Nat} : (rngL lo n).length = n := by unfold rngL; rw [List.length_map, List.length_range]
theorem gives_rng {G : Gm} {lo : Int} {n : Nat} : Gives G (Itr lo n) (rngL lo n) (fun _ => True) [] [] := by
  refine ⟨fun _ => True, YFn fun i => .int (lo + i), by rw [rngL_length]; exact walk_range, fun _ _ _ _ _ _ _ => trivial, fun ρ i H x H' α M r rm _ hi ⟨e1, e2⟩ => ?_⟩
  rw [rngL_length] at hi
  subst e1 e2
  exact ⟨_, rngL_get hi, Nx.refl .., rfl, rm⟩
theorem i_rng1 {Γ : Tab} {tg a : Expr} {a' : E} {p : Pos} (hg : Gl X "range") (hm : X.mg "range" = none) (h : PEU X cad W a (wpE Γ a')) (hs : starEach [a] X.env = [(false, eval a X.env)]) : PIU X cad W tg (.Call (.Name "range" p) [a] [] pos) (wpI Γ (.rng1 a')) := by
  refine PImono (pi_range1 (p := p) (pos := pos) hg hm (pa_cons h pa_nil hs) hs) fun σ H R ⟨ρ, δ, α, M, Q', X', rs, rm, t, hq, hx⟩ => ?_
  simp only [wpI] at t
  refine ⟨ρ, δ, α, M, _, _, rs, rm, t, fun x M1 q v H1 α1 n1 r1 m1 => ?_, hx⟩
  obtain ⟨j, rfl, q'⟩ := q.inv
  cases r1
  exact ⟨j, rfl, q'.1.1, q'.1.2, hq _ _ _ q'.2 _ _ _ [] [] n1 m1 .nil gives_rng⟩
theorem i_rng2 {Γ : Tab} {tg a b : Expr} {a' b' : E} {p : Pos} (hg : Gl X "range") (hm : X.mg "range" = none) (h : PEU X cad W a (wpE Γ a')) (h2 : PEU X cad W b (wpE Γ b')) (hs : starEach [a, b] X.env = [(false, eval a X.env), (false, eval b X.env)]) (hs2 : starEach [b] X.env = [(false, eval b X.env)]) :
    PIU X cad W tg (.Call (.Name "range" p) [a, b] [] pos) (wpI Γ (.rng2 a' b')) := by
  refine PImono (pi_range2 (p := p) (pos := pos) hg hm (pa_cons h (pa_cons h2 pa_nil hs2) (by rw [hs, hs2])) hs hs2) fun σ H R ⟨ρ, δ, α, M, Q', X', rs, rm, t, hq, hx⟩ => ?_
  simp only [wpI] at t
  refine ⟨ρ, δ, α, M, _, _, rs, rm, t, fun x M1 q v H1 α1 n1 r1 m1 => ?_, hx⟩
  refine ⟨ρ, δ, α1, M1, _, _, rs.nx n1, m1, q, fun y M2 q2 u H2 α2 n2 r2 m2 => ?_, fun c d M' x => (hx c d M' x).nx n1⟩
  obtain ⟨i, rfl, q3⟩ := q2.inv
  obtain ⟨j, rfl, q4⟩ := q3.inv
  cases r1; cases r2
  exact ⟨i, j, rfl, ⟨q4.1.1, q4.1.2, q4.2.1.1, q4.2.1.2⟩, hq _ _ _ q4.2.2 _ _ _ [] [] (n1.trans n2) m2 .nil gives_rng⟩
end
end AA
/-! AA5e: enumerate and zip walked. -/
namespace AA
open PySem PySem.Spec L2
open PyProof.Rows hiding St

/-! ### enumerate of a tuple -/
noncomputable abbrev tupIt (q : Addr) : Obj := { cls := .type "tuple_iterator", data := .fields #[.ref q, .int 0 0] }
noncomputable abbrev enumOver (k : Addr) : Obj := { cls := .type "enumerate", data := .fields #[.none, .bool false, .ref k, rawInt 0, .none, .none] }
set_option maxHeartbeats 1000000 in
theorem newEnumT (q : Addr) (xs : Array Value) : Meets (Builtin.«enumerate.__new__» ⟨[.type "enumerate", .ref q], []⟩) (fun _ R s => s.heap.IsTuple q xs ∧
    R (.ok (.ret (.ref (s.heap.push (tupIt q)).objs.size))) { s with heap := (s.heap.push (tupIt q)).push (enumOver s.heap.objs.size) }) :=
  .of_wp fun P v A R s h => by
    obtain ⟨hp, gs, dr, tk, os⟩ := s
    obtain ⟨hT, h⟩ := h
    have hsub := sub_enumerate
    obtain ⟨o, ho, hc, n, hd⟩ := id hT
    wp_walk using AutoSeq1.wpAny_loadPart' ho
    refine wpAny_stack_any fun st => wpAny_pure ?_
    split
    · rename_i c _ _ _ _ _
      cases (c == Value.type "enumerate")
      · wp_walk using AutoSeq1.wpAny_loadPart' ho, wpAny_pyIter_tuple hT
        exact ⟨_, rfl, h⟩
      · wp_walk using AutoSeq1.wpAny_loadPart' ho, wpAny_pyIter_tuple hT
        exact ⟨_, rfl, h⟩
    · wp_walk using AutoSeq1.wpAny_loadPart' ho, wpAny_pyIter_tuple hT
      exact ⟨_, rfl, h⟩
section
variable {P : Program} {v : World} {A : Around} {E : Value → Shared → Prop} {s : Shared}
theorem callEnumT {q : Addr} {xs : Array Value} {Q : Value → Shared → Prop} (hT : s.heap.IsTuple q xs)
    (h : ∀ h2, IsEnum h2 (s.heap.objs.size + 1) s.heap.objs.size 0 .none → h2.IsTupleIter s.heap.objs.size q 0 → (∀ b o, s.heap.get? b = some o → h2.get? b = some o) → Q (.ref (s.heap.objs.size + 1)) { s with heap := h2 }) :
    wpAny (model P v) A (call (.type "enumerate") [.ref q]) Q E s := by
  refine callType_new F.called_enumerate (by decide) (F.typeCall_enumerate_1 _) (F.newCall_enumerate_1 _) (fun ob => F.args_object_init_2 ob _) F.entry_enumerate_new (newEnumT q xs) ⟨hT, ?_⟩
  have sz : (s.heap.push (tupIt q)).objs.size = s.heap.objs.size + 1 := Heap.size_push ..
  show _ ∧ _
  rw [sz]
  have he : IsEnum ((s.heap.push (tupIt q)).push (enumOver s.heap.objs.size)) (s.heap.objs.size + 1) s.heap.objs.size 0 .none := by
    have z := Heap.get?_push_size (s.heap.push (tupIt q)) (o := enumOver s.heap.objs.size) rfl
    rw [sz] at z
    exact z
  exact ⟨⟨_, he, rfl⟩, h _ he ⟨_, Heap.get?_push_of_some _ (Heap.get?_push_size _ rfl), rfl, rfl⟩ fun b o x => Heap.get?_push_of_some _ (Heap.get?_push_of_some _ x)⟩
end
/-- the tuple at a, each item in a new pair -/
noncomputable def IteT (K : PySem.W.Frag) (a : Addr) : It :=
  ⟨fun i H => ∃ (xs : List V) (x : V), SqT K H a xs ∧ xs[i]? = some x, fun i H v H' => ∃ T x, v = .ref T ∧ H T = none ∧ H' = upd H T (.tup [.int (i : Nat), x]) ∧ ∀ xs, SqT K H a xs → xs[i]? = some x, fun i H => ∃ xs : List V, SqT K H a xs ∧ xs.length = i⟩
theorem turnEnumT {P : Program} {w : World} {K : PySem.W.Frag} {elts : List Expr} {kk : Nat} {tpos : Pos} (a e it : Addr) :
    Turn P w K (.Tuple elts kk tpos) (IteT K a) [e, it] e (fun i h => (∃ old, IsEnum h e it ((i : Nat) : Int) old) ∧ h.IsTupleIter it a i ∧ e ≠ it) where
  mem := by simp
  obj := fun i h st b hb => by
    obtain ⟨⟨old, he⟩, ⟨o, ho, hc, hd⟩, _⟩ := st
    rcases (show b = e ∨ b = it by simpa using hb) with rfl | rfl
    · exact ⟨_, he, fun v q => nomatch q⟩
    · exact ⟨o, ho, fun v q => by rw [hd] at q; cases q⟩
  keep := fun i h h' st k => let ⟨⟨old, he⟩, hi, hne⟩ := st; ⟨⟨old, k e (by simp) _ he⟩, hi.at fun o q => k it (by simp) o q, hne⟩
  item := by
    intro X hP hw hK hc i pins s σ H E I hf st hg
    subst hP hw hK
    obtain ⟨⟨old, he⟩, hit, hne⟩ := st
    obtain ⟨xs, x, hq, hx⟩ := hg
    obtain ⟨its, rv, p, hz⟩ := I.tuple hq
    obtain ⟨u, hu, ru⟩ := rv.get hx
    have hia : a ≠ it := by
      rintro rfl
      obtain ⟨o1, g1, c1, _⟩ := id p
      obtain ⟨o2, g2, c2, _⟩ := id hit
      rw [g1] at g2; cases g2
      rw [c1] at c2
      exact absurd c2 (by decide)
    have hea : e ≠ a := by
      rintro rfl
      obtain ⟨o1, g1, c1, _⟩ := id p
      have g2 : s.heap.get? e = some _ := he
      rw [g1] at g2; cases g2
      exact absurd (show Value.type "enumerate" = Value.type "tuple" from c1) (by decide)
    have hlt : i < its.toArray.size := by
      have z := (List.getElem?_eq_some_iff.mp hu).1
      simpa using z
    have hel : e < s.heap.objs.size := Heap.lt_size he
    have hil : it < s.heap.objs.size := by obtain ⟨_, q, _⟩ := hit; exact Heap.lt_size q
    refine wpAny_pyNext_enum_itemD (Draws.tuple (A := X.A.in1) (by exact I.ok.hd hc) it a hia its.toArray) he ⟨hit, show s.heap.IsTuple a its.toArray from p⟩ hlt hne (by simp [hne, hea]) fun y h1 tk hy ho hit1 hT hsz hk => ?_
    have ey : y = u := by
      have z : its[i]? = some y := by simpa using hy
      rw [hu] at z; cases z; rfl
    subst ey
    refine ⟨_, rfl, wpAny_letOwnedTupleGo_enum (s := { s with heap := h1, toks := tk + 1 }) ho fun h2 he2 sb => ?_⟩
    have hT2 : h2.get? s.heap.objs.size = some { cls := .type "tuple", data := .seq #[.int i tk, y] } := (sb.2 _ (Nat.ne_of_gt hel)).trans hT
    have new : ObjOk X.prog X.w (upd H s.heap.objs.size (.tup [.int (i : Nat), x])) h2 s.heap.objs.size (.tup [.int (i : Nat), x]) :=
      ⟨by show 2 ≤ sizeLine; decide, [.int i tk, y], .cons ⟨_, rfl⟩ (.cons ru .nil), ⟨_, hT2, rfl, _, rfl⟩⟩
    have I1 : Inv X pins σ (upd H s.heap.objs.size (.tup [.int (i : Nat), x])) { s with heap := h2, toks := tk + 1 } :=
      I.turnedNew (ch := [e, it]) (fun b ob hb q => (sb.2 b (fun z => hb (by simp [z]))).trans (hk b ob (fun z => hb (by simp [z])) (fun z => hb (by simp [z])) q)) hf (Nat.le_refl _) new
    refine ⟨.ref s.heap.objs.size, _, I1, rfl, ⟨_, x, rfl, I.hok.fresh (Nat.le_refl _), rfl, fun ys hy2 => by rw [I.tuple_inj hy2 hq]; exact hx⟩, ⟨⟨y, ?_⟩, hit1.1.at fun o q => (sb.2 it (Ne.symm hne)).trans q, hne⟩, fun b hb => ?_⟩
    · rw [show ((i + 1 : Nat) : Int) = (i : Int) + 1 by omega]
      exact he2
    · have hb2 : b < s.heap.objs.size := by
        rcases (show b = e ∨ b = it by simpa using hb) with rfl | rfl
        · exact hel
        · exact hil
      rw [upd_ne (Nat.ne_of_lt hb2)]
      exact (hf b hb).1
  done := by
    intro X hP hw hK hc i pins s σ H E I hf st hg
    subst hP hw hK
    obtain ⟨⟨old, he⟩, hit, hne⟩ := st
    obtain ⟨xs, hq, hx⟩ := hg
    obtain ⟨its, rv, p, hz⟩ := I.tuple hq
    have hia : a ≠ it := by
      rintro rfl
      obtain ⟨o1, g1, c1, _⟩ := id p
      obtain ⟨o2, g2, c2, _⟩ := id hit
      rw [g1] at g2; cases g2
      rw [c1] at c2
      exact absurd c2 (by decide)
    obtain ⟨f0, f1, f2, f3, f4, f5⟩ := hf it (by simp)
    have hl := rv.length
    have ei : i = its.toArray.size := by simp; omega
    exact wpAny_pyNext_enum_endD (Draws.tuple (A := X.A.in1) (by exact I.ok.hd hc) it a hia its.toArray) he (by rw [← ei]; exact ⟨hit, show s.heap.IsTuple a its.toArray from p⟩) fun h' eb => ⟨rfl, I.turned (t' := s.toks) (fun b o hb q => eb b o hb q) f0 f1 f3 f4 f5⟩
  self := fun A i s Q E st h => let ⟨⟨_, he⟩, _⟩ := st; wpAny_pyIter_enum he h
theorem boot_enum : bootBuiltins "enumerate" = some (.type "enumerate") := by decide +kernel
noncomputable def iEnumA (K : PySem.W.Frag) (ta : TA) : TI := fun σ H R => ta σ H fun vs H1 => ∃ a, vs = [.ref a] ∧ ((∃ xs, SqL K H1 a xs ∧ R (Ite K a) H1) ∨ (∃ xs, SqT K H1 a xs ∧ R (IteT K a) H1))
theorem pi_enumA {X : Cx} {e : Expr} {ta : TA} {p pos tpos : Pos} {elts : List Expr} {kk : Nat} (hg : Gl X "enumerate") (hm : X.mg "enumerate" = none) (ha : PA X [e] ta) (hs : starEach [e] X.env = [(false, eval e X.env)]) :
    PI X (.Tuple elts kk tpos) (.Call (.Name "enumerate" p) [e] [] pos) (iEnumA X.K ta) := by
  refine ⟨fun pins s σ H R I h => ?_⟩
  refine Call_ (ld_blt I hg hm boot_enum (PyProof.Rows.callWith_type1 (thn (ha.run pos pins s σ H _ I h) fun us s1 ⟨vs, H1, I1, r1, q1⟩ => ?_) hs rfl))
  obtain ⟨a, ex, q1⟩ := q1
  subst ex
  have two : ∀ b, b ∈ [s1.heap.objs.size + 1, s1.heap.objs.size] → FpOk X pins H1 b := fun b hb => by
    have le : s1.heap.objs.size ≤ b := by
      rcases (show b = s1.heap.objs.size + 1 ∨ b = s1.heap.objs.size by simpa using hb) with z | z
      · rw [z]; exact Nat.le_succ _
      · rw [z]; exact Nat.le_refl _
    exact I1.fpOk le (I1.hok.fresh le)
  cases r1 with
  | cons r rr =>
    cases rr
    cases r
    rcases q1 with ⟨xs, hq, q⟩ | ⟨xs, hq, q⟩
    · obtain ⟨its, rv, pl, hz⟩ := I1.list hq
      refine call_enumerate_list pl.isList fun h2 he hit hsz hk => wpAny_pyIter_enum he ?_
      have I2 : Inv X pins σ H1 { s1 with heap := h2 } := I1.kept (t' := s1.toks) hk
      exact ⟨_, _, _, _, H1, rfl, I2, turn_enum a (s1.heap.objs.size + 1) s1.heap.objs.size, ⟨⟨.none, he⟩, hit, Nat.succ_ne_self _⟩, two, q⟩
    · obtain ⟨its, rv, pl, hz⟩ := I1.tuple hq
      refine callEnumT (show s1.heap.IsTuple a its.toArray from pl) fun h2 he hit hk => wpAny_pyIter_enum he ?_
      have I2 : Inv X pins σ H1 { s1 with heap := h2 } := I1.kept (t' := s1.toks) hk
      exact ⟨_, _, _, _, H1, rfl, I2, turnEnumT a (s1.heap.objs.size + 1) s1.heap.objs.size, ⟨⟨.none, he⟩, hit, Nat.succ_ne_self _⟩, two, q⟩

/-! ### what they give -/
theorem enumL_length {xs : List D} : (enumL xs).length = xs.length := by unfold enumL; simp
theorem enumL_get {xs : List D} {i : Nat} {d : D} (h : xs[i]? = some d) : (enumL xs)[i]? = some (.tup [.int (i : Nat), d]) := by
  unfold enumL
  rw [List.getElem?_map, List.getElem?_zipIdx, h]
  simp
theorem zipL_length {xs ys : List D} : (zipL xs ys).length = min xs.length ys.length := by unfold zipL; simp
theorem zipL_get {xs ys : List D} {i : Nat} {d e : D} (h : xs[i]? = some d) (h2 : ys[i]? = some e) : (zipL xs ys)[i]? = some (.tup [d, e]) := by
  unfold zipL
  have z : (xs.zip ys)[i]? = some (d, e) := List.getElem?_zip_eq_some.mpr ⟨h, h2⟩
  rw [List.getElem?_map, z]
  rfl
/-- a new pair -/
theorem pair_new {G : Gm} {ρ α : List Addr} {H : Hp} {M : Mem} {T : Addr} {d e : D} {x y : V} (rm : RM G ρ H α M) (hT : H T = none) (r1 : RD G ρ H α d x) (r2 : RD G ρ H α e y) :
    Nx [] α H α (upd H T (.tup [x, y])) ∧ RD G ρ (upd H T (.tup [x, y])) α (.tup [d, e]) (.ref T) ∧ RM G ρ (upd H T (.tup [x, y])) α M := by
  have nw : Nx [] α H α (upd H T (.tup [x, y])) := Nx.new hT
  refine ⟨nw, ⟨T, [x, y], rfl, .inl ⟨?_, ?_, .inl upd_same⟩, RDs.cons (r1.nx nw) (RDs.cons (r2.nx nw) .nil)⟩, rm.new hT⟩
  · exact fun z => by obtain ⟨u, e⟩ := rm.mem z; rw [hT] at e; cases e
  · exact fun z => rm.rho _ z (.inl hT)
theorem gives_enum {G : Gm} {d : D} {a : Addr} {xs : List D} : ((∀ ys, d ≠ .tup ys) → Gives G (Ite G.K a) (enumL xs) (stayD d xs) [d] [.ref a]) ∧ ((∃ ys, d = .tup ys) → Gives G (IteT G.K a) (enumL xs) (stayD d xs) [d] [.ref a]) := by
  constructor
  · intro hd
    refine ⟨fun H => ∃ vs, SqL G.K H a vs ∧ vs.length = xs.length, fun i H v H' => ∃ T x, v = .ref T ∧ H T = none ∧ H' = upd H T (.tup [.int (i : Nat), x]) ∧ ∀ us, SqL G.K H a us → us[i]? = some x,
      ⟨fun i H hi ⟨vs, h1, h2⟩ => ?_, fun H ⟨vs, h1, h2⟩ => ⟨vs, h1, by rw [enumL_length, h2]; exact Nat.le_refl _⟩, fun i H x H' hi g y => y⟩, fun ρ H α M r rm st => ?_, fun ρ i H x H' α M r rm st hi ⟨T, x', e1, e2, e3, e4⟩ => ?_⟩
    · rw [enumL_length] at hi
      exact ⟨vs, vs[i]'(by omega), h1, List.getElem?_eq_getElem _⟩
    · obtain ⟨v, e, r1⟩ := r.one
      cases e
      rcases seq_at rm r1 st with ⟨vs, h1, h2, _⟩ | ⟨_, _, _, ys, e⟩
      · exact ⟨vs, h1, h2.length.symm⟩
      · exact absurd e (hd ys)
    · obtain ⟨v, e, r1⟩ := r.one
      cases e
      rcases seq_at rm r1 st with ⟨us, k1, k2, _⟩ | ⟨_, _, _, ys, e⟩
      · obtain ⟨d', h5, h6⟩ := k2.get' (e4 us k1)
        subst e1 e3
        obtain ⟨p1, p2, p3⟩ := pair_new (d := .int (i : Nat)) (x := .int (i : Nat)) rm e2 rfl h6
        exact ⟨_, enumL_get h5, p1, p2, p3⟩
      · exact absurd e (hd ys)
  · rintro ⟨ys, rfl⟩
    refine ⟨fun H => ∃ vs, SqT G.K H a vs ∧ vs.length = xs.length, fun i H v H' => ∃ T x, v = .ref T ∧ H T = none ∧ H' = upd H T (.tup [.int (i : Nat), x]) ∧ ∀ us, SqT G.K H a us → us[i]? = some x,
      ⟨fun i H hi ⟨vs, h1, h2⟩ => ?_, fun H ⟨vs, h1, h2⟩ => ⟨vs, h1, by rw [enumL_length, h2]⟩, fun i H x H' hi g y => y⟩, fun ρ H α M r rm st => ?_, fun ρ i H x H' α M r rm st hi ⟨T, x', e1, e2, e3, e4⟩ => ?_⟩
    · rw [enumL_length] at hi
      exact ⟨vs, vs[i]'(by omega), h1, List.getElem?_eq_getElem _⟩
    · obtain ⟨v, e, r1⟩ := r.one
      cases e
      rcases seq_at rm r1 st with ⟨vs, h1, h2, h3⟩ | ⟨vs, h1, h2, _⟩
      · exact absurd rfl (h3 ys)
      · exact ⟨vs, h1, h2.length.symm⟩
    · obtain ⟨v, e, r1⟩ := r.one
      cases e
      rcases seq_at rm r1 st with ⟨us, k1, k2, k3⟩ | ⟨us, k1, k2, _⟩
      · exact absurd rfl (k3 ys)
      · obtain ⟨d', h5, h6⟩ := k2.get' (e4 us k1)
        subst e1 e3
        obtain ⟨p1, p2, p3⟩ := pair_new (d := .int (i : Nat)) (x := .int (i : Nat)) rm e2 rfl h6
        exact ⟨_, enumL_get h5, p1, p2, p3⟩
section
variable {X : Cx} {cad : Cad} {W : WX} {pos : Pos}
theorem i_enum {Γ : Tab} {tg a : Expr} {a' : E} {p : Pos} (ht : ∃ elts k q, tg = .Tuple elts k q) (hg : Gl X "enumerate") (hm : X.mg "enumerate" = none) (h : PEU X cad W a (wpE Γ a')) (hs : starEach [a] X.env = [(false, eval a X.env)]) :
    PIU X cad W tg (.Call (.Name "enumerate" p) [a] [] pos) (wpI Γ (.enum a')) := by
  obtain ⟨elts, k, q, rfl⟩ := ht
  refine PImono (pi_enumA (p := p) (pos := pos) hg hm (pa_cons h pa_nil hs) hs) fun σ H R ⟨ρ, δ, α, M, Q', X', rs, rm, t, hq, hx⟩ => ?_
  simp only [wpI] at t
  refine ⟨ρ, δ, α, M, _, _, rs, rm, t, fun x M1 q v H1 α1 n1 r1 m1 => ?_, hx⟩
  obtain ⟨xs, e, q'⟩ := q.inv
  obtain ⟨b, vs, rfl, sq, rs1⟩ := seq_of m1 r1 e
  refine ⟨b, rfl, ?_⟩
  rcases seq_at m1 r1 e with ⟨us, k1, k2, k3⟩ | ⟨us, k1, k2, k3⟩
  · exact .inl ⟨us, k1, hq _ _ _ q' _ _ _ [x] [.ref b] n1 m1 (RDs.cons r1 .nil) ((gives_enum (G := gx X cad) (d := x) (a := b) (xs := xs)).1 k3)⟩
  · exact .inr ⟨us, k1, hq _ _ _ q' _ _ _ [x] [.ref b] n1 m1 (RDs.cons r1 .nil) ((gives_enum (G := gx X cad) (d := x) (a := b) (xs := xs)).2 k3)⟩
end
theorem gives_zipL {G : Gm} {d e : D} {a b : Addr} {xs ys : List D} (hd : ∀ zs, d ≠ .tup zs) (he : ∀ zs, e ≠ .tup zs) : Gives G (Itz G.K a b) (zipL xs ys) (fun M => stayD d xs M ∧ stayD e ys M) [d, e] [.ref a, .ref b] := by
  refine ⟨fun H => ∃ vs us, SqL G.K H a vs ∧ SqL G.K H b us ∧ vs.length = xs.length ∧ us.length = ys.length, fun i H v H' => ∃ T x y, v = .ref T ∧ H T = none ∧ H' = upd H T (.tup [x, y]) ∧ (∀ us, SqL G.K H a us → us[i]? = some x) ∧ ∀ us, SqL G.K H b us → us[i]? = some y,
    ⟨fun i H hi ⟨vs, us, h1, h2, h3, h4⟩ => ?_, fun H ⟨vs, us, h1, h2, h3, h4⟩ => ⟨vs, us, h1, h2, by rw [zipL_length, h3, h4]; omega⟩, fun i H x H' hi g y => y⟩, fun ρ H α M r rm st => ?_, fun ρ i H x H' α M r rm st hi ⟨T, x', y', e1, e2, e3, e4, e5⟩ => ?_⟩
  · rw [zipL_length] at hi
    exact ⟨vs, us, vs[i]'(by omega), us[i]'(by omega), h1, h2, List.getElem?_eq_getElem _, List.getElem?_eq_getElem _⟩
  · obtain ⟨v, u, ev, q1, q2⟩ := r.two
    cases ev
    · obtain ⟨us, us1, us2⟩ : ∃ us, SqL G.K H a us ∧ RDs G ρ H α xs us := by
        rcases seq_at rm q1 st.1 with ⟨w, w1, w2, w3⟩ | ⟨w, w1, w2, w3⟩
        · exact ⟨w, w1, w2⟩
        · obtain ⟨zs, e0⟩ := w3; exact absurd e0 (hd zs)
      obtain ⟨ws, ws1, ws2⟩ : ∃ us, SqL G.K H b us ∧ RDs G ρ H α ys us := by
        rcases seq_at rm q2 st.2 with ⟨w, w1, w2, w3⟩ | ⟨w, w1, w2, w3⟩
        · exact ⟨w, w1, w2⟩
        · obtain ⟨zs, e0⟩ := w3; exact absurd e0 (he zs)
      exact ⟨us, ws, us1, ws1, us2.length.symm, ws2.length.symm⟩
  · obtain ⟨v, u, ev, q1, q2⟩ := r.two
    cases ev
    · obtain ⟨us, us1, us2⟩ : ∃ us, SqL G.K H a us ∧ RDs G ρ H α xs us := by
        rcases seq_at rm q1 st.1 with ⟨w, w1, w2, w3⟩ | ⟨w, w1, w2, w3⟩
        · exact ⟨w, w1, w2⟩
        · obtain ⟨zs, e0⟩ := w3; exact absurd e0 (hd zs)
      obtain ⟨ws, ws1, ws2⟩ : ∃ us, SqL G.K H b us ∧ RDs G ρ H α ys us := by
        rcases seq_at rm q2 st.2 with ⟨w, w1, w2, w3⟩ | ⟨w, w1, w2, w3⟩
        · exact ⟨w, w1, w2⟩
        · obtain ⟨zs, e0⟩ := w3; exact absurd e0 (he zs)
      obtain ⟨d', h5, h6⟩ := us2.get' (e4 us us1)
      obtain ⟨f', h7, h8⟩ := ws2.get' (e5 ws ws1)
      subst e1 e3
      obtain ⟨p1, p2, p3⟩ := pair_new (d := d') (e := f') rm e2 h6 h8
      exact ⟨_, zipL_get h5 h7, p1, p2, p3⟩
theorem gives_zipT {G : Gm} {d e : D} {a b : Addr} {xs ys : List D} (hd : ∃ zs, d = .tup zs) (he : ∃ zs, e = .tup zs) : Gives G (RZ.ItzT G.K a b) (zipL xs ys) (fun M => stayD d xs M ∧ stayD e ys M) [d, e] [.ref a, .ref b] := by
  refine ⟨fun H => ∃ vs us, SqT G.K H a vs ∧ SqT G.K H b us ∧ vs.length = xs.length ∧ us.length = ys.length, fun i H v H' => ∃ T x y, v = .ref T ∧ H T = none ∧ H' = upd H T (.tup [x, y]) ∧ (∀ us, SqT G.K H a us → us[i]? = some x) ∧ ∀ us, SqT G.K H b us → us[i]? = some y,
    ⟨fun i H hi ⟨vs, us, h1, h2, h3, h4⟩ => ?_, fun H ⟨vs, us, h1, h2, h3, h4⟩ => ⟨vs, us, h1, h2, by rw [zipL_length, h3, h4]; omega⟩, fun i H x H' hi g y => y⟩, fun ρ H α M r rm st => ?_, fun ρ i H x H' α M r rm st hi ⟨T, x', y', e1, e2, e3, e4, e5⟩ => ?_⟩
  · rw [zipL_length] at hi
    exact ⟨vs, us, vs[i]'(by omega), us[i]'(by omega), h1, h2, List.getElem?_eq_getElem _, List.getElem?_eq_getElem _⟩
  · obtain ⟨v, u, ev, q1, q2⟩ := r.two
    cases ev
    · obtain ⟨us, us1, us2⟩ : ∃ us, SqT G.K H a us ∧ RDs G ρ H α xs us := by
        rcases seq_at rm q1 st.1 with ⟨w, w1, w2, w3⟩ | ⟨w, w1, w2, w3⟩
        · obtain ⟨zs, e0⟩ := hd; exact absurd e0 (w3 zs)
        · exact ⟨w, w1, w2⟩
      obtain ⟨ws, ws1, ws2⟩ : ∃ us, SqT G.K H b us ∧ RDs G ρ H α ys us := by
        rcases seq_at rm q2 st.2 with ⟨w, w1, w2, w3⟩ | ⟨w, w1, w2, w3⟩
        · obtain ⟨zs, e0⟩ := he; exact absurd e0 (w3 zs)
        · exact ⟨w, w1, w2⟩
      exact ⟨us, ws, us1, ws1, us2.length.symm, ws2.length.symm⟩
  · obtain ⟨v, u, ev, q1, q2⟩ := r.two
    cases ev
    · obtain ⟨us, us1, us2⟩ : ∃ us, SqT G.K H a us ∧ RDs G ρ H α xs us := by
        rcases seq_at rm q1 st.1 with ⟨w, w1, w2, w3⟩ | ⟨w, w1, w2, w3⟩
        · obtain ⟨zs, e0⟩ := hd; exact absurd e0 (w3 zs)
        · exact ⟨w, w1, w2⟩
      obtain ⟨ws, ws1, ws2⟩ : ∃ us, SqT G.K H b us ∧ RDs G ρ H α ys us := by
        rcases seq_at rm q2 st.2 with ⟨w, w1, w2, w3⟩ | ⟨w, w1, w2, w3⟩
        · obtain ⟨zs, e0⟩ := he; exact absurd e0 (w3 zs)
        · exact ⟨w, w1, w2⟩
      obtain ⟨d', h5, h6⟩ := us2.get' (e4 us us1)
      obtain ⟨f', h7, h8⟩ := ws2.get' (e5 ws ws1)
      subst e1 e3
      obtain ⟨p1, p2, p3⟩ := pair_new (d := d') (e := f') rm e2 h6 h8
      exact ⟨_, zipL_get h5 h7, p1, p2, p3⟩
theorem chrsD_get {z : Str} {i c : Nat} (h : z.cps[i]? = some c) : (chrsD z)[i]? = some (.str ⟨#[c]⟩) := by
  unfold chrsD
  rw [List.getElem?_map]
  have e : z.cps.toList[i]? = some c := by simpa using h
  rw [e]; rfl
theorem gives_chr {G : Gm} {z : Str} : Gives G (Its z) (chrsD z) (fun _ => True) [] [] := by
  have l : (chrsD z).length = z.cps.size := by unfold chrsD; simp
  refine ⟨fun _ => True, fun i H v H' => H' = H ∧ ∃ c, z.cps[i]? = some c ∧ v = .str ⟨#[c]⟩, by rw [l]; exact walk_str, fun _ _ _ _ _ _ _ => trivial, fun ρ i H x H' α M r rm _ hi ⟨e1, c, e2, e3⟩ => ?_⟩
  subst e1 e3
  exact ⟨_, chrsD_get e2, Nx.refl .., rfl, rm⟩
theorem rngC_length {lo c : Int} {n : Nat} : (rngC lo c n).length = n := by unfold rngC; simp
theorem rngC_get {lo c : Int} {n i : Nat} (h : i < n) : (rngC lo c n)[i]? = some (.int (lo + (i : Nat) * c)) := by
  unfold rngC
  rw [List.getElem?_map, List.getElem?_range h]
  rfl
theorem gives_rngC {G : Gm} {lo c : Int} {n : Nat} : Gives G (Itc lo c n) (rngC lo c n) (fun _ => True) [] [] := by
  refine ⟨fun _ => True, YFn fun i => .int (lo + (i : Nat) * c), by rw [rngC_length]; exact walk_rangeC, fun _ _ _ _ _ _ _ => trivial, fun ρ i H x H' α M r rm _ hi ⟨e1, e2⟩ => ?_⟩
  rw [rngC_length] at hi
  subst e1 e2
  exact ⟨_, rngC_get hi, Nx.refl .., rfl, rm⟩
section
variable {X : Cx} {cad : Cad} {W : WX} {pos : Pos}
theorem i_chr {Γ : Tab} {tg e : Expr} {e' : E} (h : PEU X cad W e (wpE Γ e')) : PIU X cad W tg e (wpI Γ (.chr e')) := by
  refine PImono (pi_str h) fun σ H R ⟨ρ, δ, α, M, Q', X', rs, rm, t, hq, hx⟩ => ?_
  simp only [wpI] at t
  refine ⟨ρ, δ, α, M, _, _, rs, rm, t, fun x M1 q v H1 α1 n1 r1 m1 => ?_, hx⟩
  obtain ⟨z, rfl, q'⟩ := q.inv
  cases r1
  exact ⟨z, rfl, hq _ _ _ q' _ _ _ [] [] n1 m1 .nil gives_chr⟩
theorem i_rng3 {Γ : Tab} {tg a b c : Expr} {a' b' c' : E} {p : Pos} (hg : Gl X "range") (hm : X.mg "range" = none) (h : PEU X cad W a (wpE Γ a')) (h2 : PEU X cad W b (wpE Γ b')) (h3 : PEU X cad W c (wpE Γ c'))
    (hs : starEach [a, b, c] X.env = (false, eval a X.env) :: starEach [b, c] X.env) (hs2 : starEach [b, c] X.env = (false, eval b X.env) :: starEach [c] X.env) (hs3 : starEach [c] X.env = [(false, eval c X.env)]) :
    PIU X cad W tg (.Call (.Name "range" p) [a, b, c] [] pos) (wpI Γ (.rng3 a' b' c')) := by
  refine PImono (pi_range3 (p := p) (pos := pos) hg hm (pa_cons h (pa_cons h2 (pa_cons h3 pa_nil hs3) hs2) hs) hs (by rw [hs2, hs3]; rfl)) fun σ H R ⟨ρ, δ, α, M, Q', X', rs, rm, t, hq, hx⟩ => ?_
  simp only [wpI] at t
  refine ⟨ρ, δ, α, M, _, _, rs, rm, t, fun x M1 q v H1 α1 n1 r1 m1 => ?_, hx⟩
  refine ⟨ρ, δ, α1, M1, _, _, rs.nx n1, m1, q, fun y M2 q2 u H2 α2 n2 r2 m2 => ?_, fun c d M' x => (hx c d M' x).nx n1⟩
  refine ⟨ρ, δ, α2, M2, _, _, rs.nx (n1.trans n2), m2, q2, fun z M3 q3 w H3 α3 n3 r3 m3 => ?_, fun c d M' x => (hx c d M' x).nx (n1.trans n2)⟩
  obtain ⟨i, rfl, q4⟩ := q3.inv
  obtain ⟨j, rfl, q5⟩ := q4.inv
  obtain ⟨l, rfl, n, hr, q6⟩ := q5.inv
  cases r1; cases r2; cases r3
  exact ⟨i, j, l, n, rfl, hr, hq _ _ _ q6 _ _ _ [] [] ((n1.trans n2).trans n3) m3 .nil gives_rngC⟩
end
end AA
/-! AA5y: zip of a tuple and a list. -/
namespace AA
open PySem PySem.Spec L2
open PyProof.Rows hiding St
section
variable {prog : Program} {w : World} {A : Around} {E : Value → Shared → Prop} {s : Shared}
/-- a zip's own objects, its first source a tuple, its second a list -/
structure Zn (h : Heap) (z TI TO i1 i2 a b : Addr) (j k : Nat) (f0 x y : Value) : Prop where
  hz : IsZip h z TI TO f0
  ti : IsPair h TI (.ref i1) (.ref i2)
  to : IsPair h TO x y
  l : h.IsTupleIter i1 a j
  t : h.IsListIter i2 b k
/-- both sources asked, the pair filled -/
theorem zn_item {z TI TO i1 i2 a b : Addr} {j k : Nat} {xs ys : Array Value} {x y x0 y0 : Value} {Q : Option Value → Shared → Prop} (D : ZipApart z TI TO i1 i2 a b) (Z : Zn s.heap z TI TO i1 i2 a b j k .none x0 y0)
    (la : s.heap.IsTuple a xs) (tb : s.heap.IsList b ys) (hx : xs[j]? = some x) (hy : ys[k]? = some y)
    (done : ∀ g, Zn g z TI TO i1 i2 a b (j + 1) (k + 1) (rawInt s.heap.objs.size) x y → IsPair g s.heap.objs.size x y → g.objs.size = s.heap.objs.size + 1 → (∀ c o, c ∉ [z, TO, i1, i2] → s.heap.get? c = some o → g.get? c = some o) → Q (some (.ref s.heap.objs.size)) { s with heap := g }) :
    wpAny (model prog w) A (pyNext (.ref z)) Q E s := by
  obtain ⟨hz, ti, to, l, t⟩ := Z
  have ty : s.TypeIs (.ref z) "zip" := ⟨_, hz, rfl⟩
  unfold pyNext
  refine wpAny_bind (wpAny_attempt (wpAny_callSpecial?_slot (name := Str.ofString "__next__") ty F.slot_zip_next (wpAny_call_entry F.slot_zip_next ty F.entry_zip_next ?_ (F.args_zip_next_1 _))))
  refine id (show wpAny (model prog w) _ (field (.ref z) 2 >>= _) _ _ s from wpAny_bind (wpAny_field hz rfl (x := .bool false) rfl ?_))
  refine id (show wpAny (model prog w) _ (field (.ref z) 3 >>= _) _ _ s from wpAny_bind (wpAny_field hz rfl (x := .ref TI) rfl (wpAny_bind (wpAny_seqItems ti rfl ?_))))
  refine id (show wpAny (model prog w) _ (Builtin.SmallTypes.ownedTupleIsFree (.ref z) >>= _) _ _ s from wpAny_bind ?_)
  unfold Builtin.SmallTypes.ownedTupleIsFree
  refine wpAny_bind (wpAny_field hz rfl (x := .none) rfl (wpAny_pure ?_))
  simp only [if_true]
  refine wpAny_bind (wpAny_rule (wpAny_bind (wpAny_field hz rfl (x := .ref TO) rfl (wpAny_bind (wpAny_setField_rec hz (by simp) fun g1 z1 s1 => ?_)))))
  have zz1 : IsZip g1 z TI TO .ellipsis := z1
  refine wpAny_bind ?_
  simp only [List.forIn_cons, List.forIn_nil, List.zipIdx_cons, List.zipIdx_nil]
  have e1 := s1.extBut
  refine wpAny_bind (wpAny_bind (wpAny_onRaise (show wpAny (model prog w) _ (Builtin.SmallTypes.nextOf (.ref i1) >>= _) _ _ _ from wpAny_bind (PySem.wpAny_nextOf_tuple_item (l.extBut e1 D.i1z) (la.extBut e1 D.l1z) hx fun g2 l2 s2 => wpAny_pure ?_))))
  have e2 := s2.extBut
  have to2 : IsPair g2 TO x0 y0 := e2 _ _ D.TOi1 (e1 _ _ D.TOz to)
  refine wpAny_bind (wpAny_seqItems to2 rfl (wpAny_bind (wpAny_updateSeq_pair to2 fun g3 to3' s3 => wpAny_bind (wpAny_letGo (wpAny_pure ?_)))))
  have to3 : IsPair g3 TO x y0 := to3'
  have e3 := s3.extBut
  refine wpAny_bind (wpAny_bind (wpAny_onRaise (show wpAny (model prog w) _ (Builtin.SmallTypes.nextOf (.ref i2) >>= _) _ _ _ from wpAny_bind (wpAny_nextOf_list_item (((t.extBut e1 D.i2z).extBut e2 D.i12.symm).extBut e3 D.TOi2.symm)
    (((tb.extBut e1 D.l2z).extBut e2 D.l2i1).extBut e3 D.l2TO) hy fun g4 t4 s4 => wpAny_pure ?_))))
  have e4 := s4.extBut
  have to4 : IsPair g4 TO x y0 := e4 _ _ D.TOi2 to3
  refine wpAny_bind (wpAny_seqItems to4 rfl (wpAny_bind (wpAny_updateSeq_pair to4 fun g5 to5' s5 => wpAny_bind (wpAny_letGo (wpAny_pure (wpAny_pure ?_))))))
  have to5 : IsPair g5 TO x y := to5'
  have e5 := s5.extBut
  refine wpAny_bind (wpAny_seqItems to5 rfl (wpAny_bind (wpAny_newTuple ?_)))
  have size : g5.objs.size = s.heap.objs.size := by rw [s5.1, s4.1, s3.1, s2.1, s1.1]
  have hz5 : IsZip g5 z TI TO .ellipsis := e5 _ _ D.TOz.symm (e4 _ _ D.i2z.symm (e3 _ _ D.TOz.symm (e2 _ _ D.i1z.symm zz1)))
  have keep : ∀ c o, c ∉ [z, TO, i1, i2] → s.heap.get? c = some o → g5.get? c = some o := fun c o nc e => by
    simp only [List.mem_cons, List.not_mem_nil, or_false, not_or] at nc
    exact e5 _ _ nc.2.1 (e4 _ _ nc.2.2.2 (e3 _ _ nc.2.1 (e2 _ _ nc.2.2.1 (e1 _ _ nc.1 e))))
  have l5 : g5.IsTupleIter i1 a (j + 1) := ((l2.extBut e3 D.TOi1.symm).extBut e4 D.i12).extBut e5 D.TOi1.symm
  have t5 : g5.IsListIter i2 b (k + 1) := t4.extBut e5 D.TOi2.symm
  have zlt : z < g5.objs.size := Heap.lt_size hz5
  refine id (show wpAny (model prog w) _ (Builtin.SmallTypes.ownedTupleHandOut (.ref z) (.ref g5.objs.size) >>= _) _ _ _ from wpAny_bind ?_)
  unfold Builtin.SmallTypes.ownedTupleHandOut
  refine wpAny_bind (wpAny_setField_rec (show IsZip (g5.push { cls := .type "tuple", data := .seq #[x, y] }) z TI TO .ellipsis from Heap.get?_push_of_some _ hz5) (by simp) fun g6 z6 s6 => ?_)
  have zz6 : IsZip g6 z TI TO (rawInt g5.objs.size) := z6
  refine wpAny_setField_rec zz6 (by simp) fun g7 z7 s7 => ?_
  have zz7 : IsZip g7 z TI TO (rawInt g5.objs.size) := z7
  have up : ∀ c o, c ≠ z → g5.get? c = some o → g7.get? c = some o := fun c o nc e => s7.extBut _ _ nc (s6.extBut _ _ nc (Heap.get?_push_of_some _ e))
  have np : IsPair g7 g5.objs.size x y := s7.extBut _ _ (Nat.ne_of_gt zlt) (s6.extBut _ _ (Nat.ne_of_gt zlt) (Heap.get?_push_size _ rfl))
  have sz7 : g7.objs.size = g5.objs.size + 1 := by rw [s7.1, s6.1, Heap.size_push]
  rw [size] at zz7 np sz7
  refine wpAny_pure ⟨_, rfl, wpAny_pure ?_⟩
  show Q (some (.ref g5.objs.size)) _
  rw [size]
  exact done g7 ⟨zz7, up _ _ D.TIz (keep _ _ (by simp [D.TIz, D.TITO, D.TIi1, D.TIi2]) ti), up _ _ D.TOz to5, l5.at fun o e => up _ o D.i1z e, t5.at fun o e => up _ o D.i2z e⟩ np sz7 fun c o nc e => up c o (fun q => nc (by simp [q])) (keep c o nc e)
/-- one of the sources is at its end -/
theorem zn_end {z TI TO i1 i2 a b : Addr} {j k : Nat} {xs ys : Array Value} {x0 y0 : Value} {Q : Option Value → Shared → Prop} (calm : A.handled = none) (D : ZipApart z TI TO i1 i2 a b) (Z : Zn s.heap z TI TO i1 i2 a b j k .none x0 y0)
    (la : s.heap.IsTuple a xs) (tb : s.heap.IsList b ys) (he : xs[j]? = none ∨ ys[k]? = none)
    (done : ∀ g, (∀ c o, c ∉ [z, TO, i1, i2] → s.heap.get? c = some o → g.get? c = some o) → Q none { s with heap := g }) : wpAny (model prog w) A (pyNext (.ref z)) Q E s := by
  obtain ⟨hz, ti, to, l, t⟩ := Z
  have ty : s.TypeIs (.ref z) "zip" := ⟨_, hz, rfl⟩
  have fin : ∀ g e, (∀ c o, c ∉ [z, TO, i1, i2] → s.heap.get? c = some o → g.get? c = some o) → (∃ o, g.get? e = some o ∧ o.cls = .type "StopIteration") →
      wpAny (model prog w) A (do if ← isInstance (.ref e) (.type "StopIteration") then pure none else throw (.ref e)) Q E { s with heap := g } := fun g e hk ⟨o, ho, hc⟩ =>
    wpAny_bind (wpAny_isInstance (T := "StopIteration") (b := true) ⟨o, ho, hc⟩ isSubtype_stop (wpAny_pure (done _ hk)))
  unfold pyNext
  refine wpAny_bind (wpAny_attempt (wpAny_callSpecial?_slot (name := Str.ofString "__next__") ty F.slot_zip_next (wpAny_call_entry F.slot_zip_next ty F.entry_zip_next ?_ (F.args_zip_next_1 _))))
  refine id (show wpAny (model prog w) _ (field (.ref z) 2 >>= _) _ _ s from wpAny_bind (wpAny_field hz rfl (x := .bool false) rfl ?_))
  refine id (show wpAny (model prog w) _ (field (.ref z) 3 >>= _) _ _ s from wpAny_bind (wpAny_field hz rfl (x := .ref TI) rfl (wpAny_bind (wpAny_seqItems ti rfl ?_))))
  refine id (show wpAny (model prog w) _ (Builtin.SmallTypes.ownedTupleIsFree (.ref z) >>= _) _ _ s from wpAny_bind ?_)
  unfold Builtin.SmallTypes.ownedTupleIsFree
  refine wpAny_bind (wpAny_field hz rfl (x := .none) rfl (wpAny_pure ?_))
  simp only [if_true]
  refine wpAny_bind (wpAny_rule (wpAny_bind (wpAny_field hz rfl (x := .ref TO) rfl (wpAny_bind (wpAny_setField_rec hz (by simp) fun g1 z1 s1 => ?_)))))
  have zz1 : IsZip g1 z TI TO .ellipsis := z1
  refine wpAny_bind ?_
  simp only [List.forIn_cons, List.forIn_nil, List.zipIdx_cons, List.zipIdx_nil]
  have e1 := s1.extBut
  cases hx : xs[j]? with
  | none =>
    refine wpAny_bind (wpAny_bind (wpAny_onRaise (show wpAny (model prog w) _ (Builtin.SmallTypes.nextOf (.ref i1) >>= _) _ _ _ from wpAny_bind (PySem.wpAny_nextOf_tuple_end calm (l.extBut e1 D.i1z) (la.extBut e1 D.l1z) hx fun g2 e e2 ⟨oe, ho, hc⟩ => ?_))))
    have zz2 : IsZip g2 z TI TO .ellipsis := e2 _ _ D.i1z.symm zz1
    have ne : e ≠ z := fun q => by rw [q, zz2] at ho; cases ho; simp at hc
    refine wpAny_setField_rec zz2 (by simp) fun g3 _ s3 => fin g3 e (fun c o nc q => ?_) ⟨oe, s3.extBut _ _ ne ho, hc⟩
    simp only [List.mem_cons, List.not_mem_nil, or_false, not_or] at nc
    exact s3.extBut _ _ nc.1 (e2 _ _ nc.2.2.1 (e1 _ _ nc.1 q))
  | some x =>
    have hy : ys[k]? = none := by
      rcases he with q | q
      · rw [hx] at q; cases q
      · exact q
    refine wpAny_bind (wpAny_bind (wpAny_onRaise (show wpAny (model prog w) _ (Builtin.SmallTypes.nextOf (.ref i1) >>= _) _ _ _ from wpAny_bind (PySem.wpAny_nextOf_tuple_item (l.extBut e1 D.i1z) (la.extBut e1 D.l1z) hx fun g2 l2 s2 => wpAny_pure ?_))))
    have e2 := s2.extBut
    have to2 : IsPair g2 TO x0 y0 := e2 _ _ D.TOi1 (e1 _ _ D.TOz to)
    refine wpAny_bind (wpAny_seqItems to2 rfl (wpAny_bind (wpAny_updateSeq_pair to2 fun g3 to3' s3 => wpAny_bind (wpAny_letGo (wpAny_pure ?_)))))
    have e3 := s3.extBut
    refine wpAny_bind (wpAny_bind (wpAny_onRaise (show wpAny (model prog w) _ (Builtin.SmallTypes.nextOf (.ref i2) >>= _) _ _ _ from wpAny_bind (wpAny_nextOf_list_end calm (((t.extBut e1 D.i2z).extBut e2 D.i12.symm).extBut e3 D.TOi2.symm)
      (((tb.extBut e1 D.l2z).extBut e2 D.l2i1).extBut e3 D.l2TO) hy fun g4 e e4 ⟨oe, ho, hc⟩ => ?_))))
    have zz4 : IsZip g4 z TI TO .ellipsis := e4 _ _ D.i2z.symm (e3 _ _ D.TOz.symm (e2 _ _ D.i1z.symm zz1))
    have ne : e ≠ z := fun q => by rw [q, zz4] at ho; cases ho; simp at hc
    refine wpAny_setField_rec zz4 (by simp) fun g5 _ s5 => fin g5 e (fun c o nc q => ?_) ⟨oe, s5.extBut _ _ ne ho, hc⟩
    simp only [List.mem_cons, List.not_mem_nil, or_false, not_or] at nc
    exact s5.extBut _ _ nc.1 (e4 _ _ nc.2.2.2 (e3 _ _ nc.2.1 (e2 _ _ nc.2.2.1 (e1 _ _ nc.1 q))))
/-! ### made -/
noncomputable abbrev zn1 (h : Heap) (a : Addr) : Heap := h.push { cls := .type "tuple_iterator", data := .fields #[.ref a, .int 0 0] }
noncomputable abbrev zn2 (h : Heap) (a b : Addr) : Heap := (zn1 h a).push { cls := .type "list_iterator", data := .fields #[.ref b, .int 0 0] }
noncomputable abbrev zn3 (h : Heap) (a b : Addr) : Heap := (zn2 h a b).push { cls := .type "tuple", data := .seq #[.ref h.objs.size, .ref (zn1 h a).objs.size] }
noncomputable abbrev zn4 (h : Heap) (a b : Addr) : Heap := (zn3 h a b).push { cls := .type "tuple", data := .seq #[.none, .none] }
noncomputable abbrev zn5 (h : Heap) (a b : Addr) : Heap := (zn4 h a b).push { cls := .type "zip", data := .fields #[.none, .bool false, .bool false, .ref (zn2 h a b).objs.size, .ref (zn3 h a b).objs.size] }
theorem meets_zn (a b : Addr) (xs ys : Array Value) : Meets (Builtin.«zip.__new__» ⟨[.type "zip", .ref a, .ref b], []⟩) (fun _ R s => s.heap.IsTuple a xs ∧ s.heap.IsList b ys ∧ R (.ok (.ret (.ref (zn4 s.heap a b).objs.size))) { s with heap := zn5 s.heap a b }) :=
  .of_wp fun prog w A R s h => by
    obtain ⟨hp, g, d, tk, os⟩ := s
    obtain ⟨la, tb, h⟩ := h
    have sub := sub_zip
    have p1 : Heap.IsTuple (Shared.heap ⟨hp, g, d, tk, os⟩) a xs := la
    have p2 : Heap.IsList (Shared.heap ⟨hp.push { cls := .type "tuple_iterator", data := .fields #[.ref a, .int 0 0] }, g, d, tk, os⟩) b ys := Heap.IsList.push tb _
    wp_walk using wpAny_pyIter_tuple p1, wpAny_pyIter_list p2
    exact ⟨_, rfl, h⟩
theorem call_zn {a b : Addr} {xs ys : Array Value} {Q : Value → Shared → Prop} (la : s.heap.IsTuple a xs) (tb : s.heap.IsList b ys)
    (h : ∀ g, Zn g (s.heap.objs.size + 4) (s.heap.objs.size + 2) (s.heap.objs.size + 3) s.heap.objs.size (s.heap.objs.size + 1) a b 0 0 .none .none .none → (∀ c o, s.heap.get? c = some o → g.get? c = some o) → Q (.ref (s.heap.objs.size + 4)) { s with heap := g }) :
    wpAny (model prog w) A (call (.type "zip") [.ref a, .ref b]) Q E s := by
  refine callType_new F.called_zip (by decide) (F.typeCall_zip_2 _ _) (F.newCall_zip_2 _ _) (fun obj => F.args_object_init_3 obj _ _) F.entry_zip_new (meets_zn a b xs ys) ⟨la, tb, ?_⟩
  have q1 : (zn1 s.heap a).objs.size = s.heap.objs.size + 1 := Heap.size_push ..
  have q2 : (zn2 s.heap a b).objs.size = s.heap.objs.size + 2 := (Heap.size_push ..).trans (by rw [q1])
  have q3 : (zn3 s.heap a b).objs.size = s.heap.objs.size + 3 := (Heap.size_push ..).trans (by rw [q2])
  have q4 : (zn4 s.heap a b).objs.size = s.heap.objs.size + 4 := (Heap.size_push ..).trans (by rw [q3])
  have u4 : ∀ c o, (zn4 s.heap a b).get? c = some o → (zn5 s.heap a b).get? c = some o := fun c o e => Heap.get?_push_of_some _ e
  have u3 : ∀ c o, (zn3 s.heap a b).get? c = some o → (zn5 s.heap a b).get? c = some o := fun c o e => u4 c o (Heap.get?_push_of_some _ e)
  have u2 : ∀ c o, (zn2 s.heap a b).get? c = some o → (zn5 s.heap a b).get? c = some o := fun c o e => u3 c o (Heap.get?_push_of_some _ e)
  have u1 : ∀ c o, (zn1 s.heap a).get? c = some o → (zn5 s.heap a b).get? c = some o := fun c o e => u2 c o (Heap.get?_push_of_some _ e)
  have o1 : (zn5 s.heap a b).get? s.heap.objs.size = some _ := u1 _ _ (Heap.get?_push_size _ rfl)
  have o2 : (zn5 s.heap a b).get? (zn1 s.heap a).objs.size = some _ := u2 _ _ (Heap.get?_push_size _ rfl)
  have o3 : (zn5 s.heap a b).get? (zn2 s.heap a b).objs.size = some _ := u3 _ _ (Heap.get?_push_size _ rfl)
  have o4 : (zn5 s.heap a b).get? (zn3 s.heap a b).objs.size = some _ := u4 _ _ (Heap.get?_push_size _ rfl)
  have o5 : (zn5 s.heap a b).get? (zn4 s.heap a b).objs.size = some _ := Heap.get?_push_size _ rfl
  rw [q2, q3, q4] at o5
  rw [q1, q2] at o3
  rw [q3] at o4
  rw [q1] at o2
  show _ ∧ _
  rw [q4]
  exact ⟨⟨_, o5, rfl⟩, h _ ⟨o5, o3, o4, ⟨_, o1, rfl, rfl⟩, ⟨_, o2, rfl, rfl⟩⟩ fun c o e => u1 c o (Heap.get?_push_of_some _ e)⟩
end
/-! ### walked -/
/-- the tuple at a and the list at b as they stand at each turn, the items in new pairs -/
noncomputable def ItzN (K : PySem.W.Frag) (a b : Addr) : It :=
  ⟨fun i H => ∃ (vs us : List V) (v u : V), SqT K H a vs ∧ SqL K H b us ∧ vs[i]? = some v ∧ us[i]? = some u,
    fun i H r H' => ∃ q v u, r = .ref q ∧ H q = none ∧ H' = upd H q (.tup [v, u]) ∧ (∀ vs, SqT K H a vs → vs[i]? = some v) ∧ ∀ us, SqL K H b us → us[i]? = some u,
    fun i H => ∃ vs us : List V, SqT K H a vs ∧ SqL K H b us ∧ (vs.length ≤ i ∨ us.length ≤ i)⟩
theorem turn_zn {P : Program} {w : World} {K : PySem.W.Frag} {elts : List Expr} {kk : Nat} {tpos : Pos} {a b z TI TO i1 i2 : Addr} (D : ZipApart z TI TO i1 i2 a b) :
    Turn P w K (.Tuple elts kk tpos) (ItzN K a b) [z, TI, TO, i1, i2] z (fun i h => ∃ x y, Zn h z TI TO i1 i2 a b i i .none x y) where
  mem := by simp
  obj := fun i h ⟨x, y, Z⟩ c hc => by
    have hc' : c = z ∨ c = TI ∨ c = TO ∨ c = i1 ∨ c = i2 := by simpa using hc
    obtain ⟨o1, e1, _, d1⟩ := Z.l
    obtain ⟨o2, e2, _, d2⟩ := Z.t
    rcases hc' with rfl | rfl | rfl | rfl | rfl
    · exact ⟨_, Z.hz, fun v q => nomatch q⟩
    · exact ⟨_, Z.ti, fun v q => nomatch q⟩
    · exact ⟨_, Z.to, fun v q => nomatch q⟩
    · exact ⟨o1, e1, fun v q => by rw [d1] at q; cases q⟩
    · exact ⟨o2, e2, fun v q => by rw [d2] at q; cases q⟩
  keep := fun i h h' ⟨x, y, Z⟩ k => ⟨x, y, k z (by simp) _ Z.hz, k TI (by simp) _ Z.ti, k TO (by simp) _ Z.to, Z.l.at fun o q => k i1 (by simp) o q, Z.t.at fun o q => k i2 (by simp) o q⟩
  item := by
    intro X hP hw hK hc i pins s σ H E I hf ⟨x0, y0, Z⟩ ⟨vs, us, v, u, sl, st, gv, gu⟩
    subst hP hw hK
    obtain ⟨p, rv, pl, _⟩ := I.tuple sl
    obtain ⟨p', rv', pt, _⟩ := I.list st
    obtain ⟨x, ex, rx⟩ := rv.get gv
    obtain ⟨y, ey, ry⟩ := rv'.get gu
    have zl : z < s.heap.objs.size := Heap.lt_size Z.hz
    refine zn_item D Z pl pt.isList (x := x) (y := y) (by simpa using ex) (by simpa using ey) fun g Zg np sz kp => ⟨_, rfl, wpAny_letOwnedTupleGo_zip (s := { s with heap := g }) Zg.hz fun g' zg' sb => ?_⟩
    have np' : g'.get? s.heap.objs.size = some { cls := .type "tuple", data := .seq #[x, y] } := (sb.2 _ (Nat.ne_of_gt zl)).trans np
    have I1 : Inv X pins σ (upd H s.heap.objs.size (.tup [v, u])) { s with heap := g' } := I.turnedNew (t' := s.toks) (ch := [z, TI, TO, i1, i2]) (fun c o nc q => by
        simp only [List.mem_cons, List.not_mem_nil, or_false, not_or] at nc
        exact (sb.2 c nc.1).trans (kp c o (by simp [nc.1, nc.2.2.1, nc.2.2.2.1, nc.2.2.2.2]) q)) hf (Nat.le_refl _) ⟨by show 2 ≤ sizeLine; decide, [x, y], .cons rx (.cons ry .nil), ⟨_, np', rfl, _, rfl⟩⟩
    refine ⟨.ref s.heap.objs.size, _, I1, rfl, ⟨_, v, u, rfl, I.hok.fresh (Nat.le_refl _), rfl, fun l hl => by rw [I.tuple_inj hl sl]; exact gv, fun l hl => by rw [I.list_inj hl st]; exact gu⟩, ⟨x, y, zg', (sb.2 _ D.TIz).trans Zg.ti, (sb.2 _ D.TOz).trans Zg.to, Zg.l.at fun o q => (sb.2 _ D.i1z).trans q, Zg.t.at fun o q => (sb.2 _ D.i2z).trans q⟩, fun c hcm => ?_⟩
    have lt : c < s.heap.objs.size := by
      obtain ⟨o1, e1, _⟩ := Z.l
      obtain ⟨o2, e2, _⟩ := Z.t
      have hc' : c = z ∨ c = TI ∨ c = TO ∨ c = i1 ∨ c = i2 := by simpa using hcm
      rcases hc' with rfl | rfl | rfl | rfl | rfl
      · exact zl
      · exact Heap.lt_size Z.ti
      · exact Heap.lt_size Z.to
      · exact Heap.lt_size e1
      · exact Heap.lt_size e2
    rw [upd_ne (Nat.ne_of_lt lt)]
    exact (hf c hcm).1
  done := by
    intro X hP hw hK hc i pins s σ H E I hf ⟨x0, y0, Z⟩ ⟨vs, us, sl, st, ends⟩
    subst hP hw hK
    obtain ⟨p, rv, pl, _⟩ := I.tuple sl
    obtain ⟨p', rv', pt, _⟩ := I.list st
    have n1 := rv.length
    have n2 := rv'.length
    have out : p.toArray[i]? = none ∨ p'.toArray[i]? = none := by
      rcases ends with q | q
      · exact .inl (by simp; omega)
      · exact .inr (by simp; omega)
    refine zn_end (I.ok.hd hc) D Z pl pt.isList out fun g kp => ⟨rfl, I.turnedL (t' := s.toks) (ch := [z, TI, TO, i1, i2]) (fun c o nc q => ?_) hf⟩
    simp only [List.mem_cons, List.not_mem_nil, or_false, not_or] at nc
    exact kp c o (by simp [nc.1, nc.2.2.1, nc.2.2.2.1, nc.2.2.2.2]) q
  self := fun A i s Q E ⟨x, y, Z⟩ h => wpAny_pyIter_zip Z.hz h
end AA
/-! AA5z: zip of a list and a tuple. -/
namespace AA
open PySem PySem.Spec L2
open PyProof.Rows hiding St
section
variable {prog : Program} {w : World} {A : Around} {E : Value → Shared → Prop} {s : Shared}
/-- a zip's own objects, its first source a list, its second a tuple -/
structure Zm (h : Heap) (z TI TO i1 i2 a b : Addr) (j k : Nat) (f0 x y : Value) : Prop where
  hz : IsZip h z TI TO f0
  ti : IsPair h TI (.ref i1) (.ref i2)
  to : IsPair h TO x y
  l : h.IsListIter i1 a j
  t : h.IsTupleIter i2 b k
/-- both sources asked, the pair filled -/
theorem zm_item {z TI TO i1 i2 a b : Addr} {j k : Nat} {xs ys : Array Value} {x y x0 y0 : Value} {Q : Option Value → Shared → Prop} (D : ZipApart z TI TO i1 i2 a b) (Z : Zm s.heap z TI TO i1 i2 a b j k .none x0 y0)
    (la : s.heap.IsList a xs) (tb : s.heap.IsTuple b ys) (hx : xs[j]? = some x) (hy : ys[k]? = some y)
    (done : ∀ g, Zm g z TI TO i1 i2 a b (j + 1) (k + 1) (rawInt s.heap.objs.size) x y → IsPair g s.heap.objs.size x y → g.objs.size = s.heap.objs.size + 1 → (∀ c o, c ∉ [z, TO, i1, i2] → s.heap.get? c = some o → g.get? c = some o) → Q (some (.ref s.heap.objs.size)) { s with heap := g }) :
    wpAny (model prog w) A (pyNext (.ref z)) Q E s := by
  obtain ⟨hz, ti, to, l, t⟩ := Z
  have ty : s.TypeIs (.ref z) "zip" := ⟨_, hz, rfl⟩
  unfold pyNext
  refine wpAny_bind (wpAny_attempt (wpAny_callSpecial?_slot (name := Str.ofString "__next__") ty F.slot_zip_next (wpAny_call_entry F.slot_zip_next ty F.entry_zip_next ?_ (F.args_zip_next_1 _))))
  refine id (show wpAny (model prog w) _ (field (.ref z) 2 >>= _) _ _ s from wpAny_bind (wpAny_field hz rfl (x := .bool false) rfl ?_))
  refine id (show wpAny (model prog w) _ (field (.ref z) 3 >>= _) _ _ s from wpAny_bind (wpAny_field hz rfl (x := .ref TI) rfl (wpAny_bind (wpAny_seqItems ti rfl ?_))))
  refine id (show wpAny (model prog w) _ (Builtin.SmallTypes.ownedTupleIsFree (.ref z) >>= _) _ _ s from wpAny_bind ?_)
  unfold Builtin.SmallTypes.ownedTupleIsFree
  refine wpAny_bind (wpAny_field hz rfl (x := .none) rfl (wpAny_pure ?_))
  simp only [if_true]
  refine wpAny_bind (wpAny_rule (wpAny_bind (wpAny_field hz rfl (x := .ref TO) rfl (wpAny_bind (wpAny_setField_rec hz (by simp) fun g1 z1 s1 => ?_)))))
  have zz1 : IsZip g1 z TI TO .ellipsis := z1
  refine wpAny_bind ?_
  simp only [List.forIn_cons, List.forIn_nil, List.zipIdx_cons, List.zipIdx_nil]
  have e1 := s1.extBut
  refine wpAny_bind (wpAny_bind (wpAny_onRaise (show wpAny (model prog w) _ (Builtin.SmallTypes.nextOf (.ref i1) >>= _) _ _ _ from wpAny_bind (wpAny_nextOf_list_item (l.extBut e1 D.i1z) (la.extBut e1 D.l1z) hx fun g2 l2 s2 => wpAny_pure ?_))))
  have e2 := s2.extBut
  have to2 : IsPair g2 TO x0 y0 := e2 _ _ D.TOi1 (e1 _ _ D.TOz to)
  refine wpAny_bind (wpAny_seqItems to2 rfl (wpAny_bind (wpAny_updateSeq_pair to2 fun g3 to3' s3 => wpAny_bind (wpAny_letGo (wpAny_pure ?_)))))
  have to3 : IsPair g3 TO x y0 := to3'
  have e3 := s3.extBut
  refine wpAny_bind (wpAny_bind (wpAny_onRaise (show wpAny (model prog w) _ (Builtin.SmallTypes.nextOf (.ref i2) >>= _) _ _ _ from wpAny_bind (PySem.wpAny_nextOf_tuple_item (((t.extBut e1 D.i2z).extBut e2 D.i12.symm).extBut e3 D.TOi2.symm)
    (((tb.extBut e1 D.l2z).extBut e2 D.l2i1).extBut e3 D.l2TO) hy fun g4 t4 s4 => wpAny_pure ?_))))
  have e4 := s4.extBut
  have to4 : IsPair g4 TO x y0 := e4 _ _ D.TOi2 to3
  refine wpAny_bind (wpAny_seqItems to4 rfl (wpAny_bind (wpAny_updateSeq_pair to4 fun g5 to5' s5 => wpAny_bind (wpAny_letGo (wpAny_pure (wpAny_pure ?_))))))
  have to5 : IsPair g5 TO x y := to5'
  have e5 := s5.extBut
  refine wpAny_bind (wpAny_seqItems to5 rfl (wpAny_bind (wpAny_newTuple ?_)))
  have size : g5.objs.size = s.heap.objs.size := by rw [s5.1, s4.1, s3.1, s2.1, s1.1]
  have hz5 : IsZip g5 z TI TO .ellipsis := e5 _ _ D.TOz.symm (e4 _ _ D.i2z.symm (e3 _ _ D.TOz.symm (e2 _ _ D.i1z.symm zz1)))
  have keep : ∀ c o, c ∉ [z, TO, i1, i2] → s.heap.get? c = some o → g5.get? c = some o := fun c o nc e => by
    simp only [List.mem_cons, List.not_mem_nil, or_false, not_or] at nc
    exact e5 _ _ nc.2.1 (e4 _ _ nc.2.2.2 (e3 _ _ nc.2.1 (e2 _ _ nc.2.2.1 (e1 _ _ nc.1 e))))
  have l5 : g5.IsListIter i1 a (j + 1) := ((l2.extBut e3 D.TOi1.symm).extBut e4 D.i12).extBut e5 D.TOi1.symm
  have t5 : g5.IsTupleIter i2 b (k + 1) := t4.extBut e5 D.TOi2.symm
  have zlt : z < g5.objs.size := Heap.lt_size hz5
  refine id (show wpAny (model prog w) _ (Builtin.SmallTypes.ownedTupleHandOut (.ref z) (.ref g5.objs.size) >>= _) _ _ _ from wpAny_bind ?_)
  unfold Builtin.SmallTypes.ownedTupleHandOut
  refine wpAny_bind (wpAny_setField_rec (show IsZip (g5.push { cls := .type "tuple", data := .seq #[x, y] }) z TI TO .ellipsis from Heap.get?_push_of_some _ hz5) (by simp) fun g6 z6 s6 => ?_)
  have zz6 : IsZip g6 z TI TO (rawInt g5.objs.size) := z6
  refine wpAny_setField_rec zz6 (by simp) fun g7 z7 s7 => ?_
  have zz7 : IsZip g7 z TI TO (rawInt g5.objs.size) := z7
  have up : ∀ c o, c ≠ z → g5.get? c = some o → g7.get? c = some o := fun c o nc e => s7.extBut _ _ nc (s6.extBut _ _ nc (Heap.get?_push_of_some _ e))
  have np : IsPair g7 g5.objs.size x y := s7.extBut _ _ (Nat.ne_of_gt zlt) (s6.extBut _ _ (Nat.ne_of_gt zlt) (Heap.get?_push_size _ rfl))
  have sz7 : g7.objs.size = g5.objs.size + 1 := by rw [s7.1, s6.1, Heap.size_push]
  rw [size] at zz7 np sz7
  refine wpAny_pure ⟨_, rfl, wpAny_pure ?_⟩
  show Q (some (.ref g5.objs.size)) _
  rw [size]
  exact done g7 ⟨zz7, up _ _ D.TIz (keep _ _ (by simp [D.TIz, D.TITO, D.TIi1, D.TIi2]) ti), up _ _ D.TOz to5, l5.at fun o e => up _ o D.i1z e, t5.at fun o e => up _ o D.i2z e⟩ np sz7 fun c o nc e => up c o (fun q => nc (by simp [q])) (keep c o nc e)
/-- one of the sources is at its end -/
theorem zm_end {z TI TO i1 i2 a b : Addr} {j k : Nat} {xs ys : Array Value} {x0 y0 : Value} {Q : Option Value → Shared → Prop} (calm : A.handled = none) (D : ZipApart z TI TO i1 i2 a b) (Z : Zm s.heap z TI TO i1 i2 a b j k .none x0 y0)
    (la : s.heap.IsList a xs) (tb : s.heap.IsTuple b ys) (he : xs[j]? = none ∨ ys[k]? = none)
    (done : ∀ g, (∀ c o, c ∉ [z, TO, i1, i2] → s.heap.get? c = some o → g.get? c = some o) → Q none { s with heap := g }) : wpAny (model prog w) A (pyNext (.ref z)) Q E s := by
  obtain ⟨hz, ti, to, l, t⟩ := Z
  have ty : s.TypeIs (.ref z) "zip" := ⟨_, hz, rfl⟩
  have fin : ∀ g e, (∀ c o, c ∉ [z, TO, i1, i2] → s.heap.get? c = some o → g.get? c = some o) → (∃ o, g.get? e = some o ∧ o.cls = .type "StopIteration") →
      wpAny (model prog w) A (do if ← isInstance (.ref e) (.type "StopIteration") then pure none else throw (.ref e)) Q E { s with heap := g } := fun g e hk ⟨o, ho, hc⟩ =>
    wpAny_bind (wpAny_isInstance (T := "StopIteration") (b := true) ⟨o, ho, hc⟩ isSubtype_stop (wpAny_pure (done _ hk)))
  unfold pyNext
  refine wpAny_bind (wpAny_attempt (wpAny_callSpecial?_slot (name := Str.ofString "__next__") ty F.slot_zip_next (wpAny_call_entry F.slot_zip_next ty F.entry_zip_next ?_ (F.args_zip_next_1 _))))
  refine id (show wpAny (model prog w) _ (field (.ref z) 2 >>= _) _ _ s from wpAny_bind (wpAny_field hz rfl (x := .bool false) rfl ?_))
  refine id (show wpAny (model prog w) _ (field (.ref z) 3 >>= _) _ _ s from wpAny_bind (wpAny_field hz rfl (x := .ref TI) rfl (wpAny_bind (wpAny_seqItems ti rfl ?_))))
  refine id (show wpAny (model prog w) _ (Builtin.SmallTypes.ownedTupleIsFree (.ref z) >>= _) _ _ s from wpAny_bind ?_)
  unfold Builtin.SmallTypes.ownedTupleIsFree
  refine wpAny_bind (wpAny_field hz rfl (x := .none) rfl (wpAny_pure ?_))
  simp only [if_true]
  refine wpAny_bind (wpAny_rule (wpAny_bind (wpAny_field hz rfl (x := .ref TO) rfl (wpAny_bind (wpAny_setField_rec hz (by simp) fun g1 z1 s1 => ?_)))))
  have zz1 : IsZip g1 z TI TO .ellipsis := z1
  refine wpAny_bind ?_
  simp only [List.forIn_cons, List.forIn_nil, List.zipIdx_cons, List.zipIdx_nil]
  have e1 := s1.extBut
  cases hx : xs[j]? with
  | none =>
    refine wpAny_bind (wpAny_bind (wpAny_onRaise (show wpAny (model prog w) _ (Builtin.SmallTypes.nextOf (.ref i1) >>= _) _ _ _ from wpAny_bind (wpAny_nextOf_list_end calm (l.extBut e1 D.i1z) (la.extBut e1 D.l1z) hx fun g2 e e2 ⟨oe, ho, hc⟩ => ?_))))
    have zz2 : IsZip g2 z TI TO .ellipsis := e2 _ _ D.i1z.symm zz1
    have ne : e ≠ z := fun q => by rw [q, zz2] at ho; cases ho; simp at hc
    refine wpAny_setField_rec zz2 (by simp) fun g3 _ s3 => fin g3 e (fun c o nc q => ?_) ⟨oe, s3.extBut _ _ ne ho, hc⟩
    simp only [List.mem_cons, List.not_mem_nil, or_false, not_or] at nc
    exact s3.extBut _ _ nc.1 (e2 _ _ nc.2.2.1 (e1 _ _ nc.1 q))
  | some x =>
    have hy : ys[k]? = none := by
      rcases he with q | q
      · rw [hx] at q; cases q
      · exact q
    refine wpAny_bind (wpAny_bind (wpAny_onRaise (show wpAny (model prog w) _ (Builtin.SmallTypes.nextOf (.ref i1) >>= _) _ _ _ from wpAny_bind (wpAny_nextOf_list_item (l.extBut e1 D.i1z) (la.extBut e1 D.l1z) hx fun g2 l2 s2 => wpAny_pure ?_))))
    have e2 := s2.extBut
    have to2 : IsPair g2 TO x0 y0 := e2 _ _ D.TOi1 (e1 _ _ D.TOz to)
    refine wpAny_bind (wpAny_seqItems to2 rfl (wpAny_bind (wpAny_updateSeq_pair to2 fun g3 to3' s3 => wpAny_bind (wpAny_letGo (wpAny_pure ?_)))))
    have e3 := s3.extBut
    refine wpAny_bind (wpAny_bind (wpAny_onRaise (show wpAny (model prog w) _ (Builtin.SmallTypes.nextOf (.ref i2) >>= _) _ _ _ from wpAny_bind (PySem.wpAny_nextOf_tuple_end calm (((t.extBut e1 D.i2z).extBut e2 D.i12.symm).extBut e3 D.TOi2.symm)
      (((tb.extBut e1 D.l2z).extBut e2 D.l2i1).extBut e3 D.l2TO) hy fun g4 e e4 ⟨oe, ho, hc⟩ => ?_))))
    have zz4 : IsZip g4 z TI TO .ellipsis := e4 _ _ D.i2z.symm (e3 _ _ D.TOz.symm (e2 _ _ D.i1z.symm zz1))
    have ne : e ≠ z := fun q => by rw [q, zz4] at ho; cases ho; simp at hc
    refine wpAny_setField_rec zz4 (by simp) fun g5 _ s5 => fin g5 e (fun c o nc q => ?_) ⟨oe, s5.extBut _ _ ne ho, hc⟩
    simp only [List.mem_cons, List.not_mem_nil, or_false, not_or] at nc
    exact s5.extBut _ _ nc.1 (e4 _ _ nc.2.2.2 (e3 _ _ nc.2.1 (e2 _ _ nc.2.2.1 (e1 _ _ nc.1 q))))
/-! ### made -/
noncomputable abbrev zm1 (h : Heap) (a : Addr) : Heap := h.push { cls := .type "list_iterator", data := .fields #[.ref a, .int 0 0] }
noncomputable abbrev zm2 (h : Heap) (a b : Addr) : Heap := (zm1 h a).push { cls := .type "tuple_iterator", data := .fields #[.ref b, .int 0 0] }
noncomputable abbrev zm3 (h : Heap) (a b : Addr) : Heap := (zm2 h a b).push { cls := .type "tuple", data := .seq #[.ref h.objs.size, .ref (zm1 h a).objs.size] }
noncomputable abbrev zm4 (h : Heap) (a b : Addr) : Heap := (zm3 h a b).push { cls := .type "tuple", data := .seq #[.none, .none] }
noncomputable abbrev zm5 (h : Heap) (a b : Addr) : Heap := (zm4 h a b).push { cls := .type "zip", data := .fields #[.none, .bool false, .bool false, .ref (zm2 h a b).objs.size, .ref (zm3 h a b).objs.size] }
theorem meets_zm (a b : Addr) (xs ys : Array Value) : Meets (Builtin.«zip.__new__» ⟨[.type "zip", .ref a, .ref b], []⟩) (fun _ R s => s.heap.IsList a xs ∧ s.heap.IsTuple b ys ∧ R (.ok (.ret (.ref (zm4 s.heap a b).objs.size))) { s with heap := zm5 s.heap a b }) :=
  .of_wp fun prog w A R s h => by
    obtain ⟨hp, g, d, tk, os⟩ := s
    obtain ⟨la, tb, h⟩ := h
    have sub := sub_zip
    have p1 : Heap.IsList (Shared.heap ⟨hp, g, d, tk, os⟩) a xs := la
    have p2 : Heap.IsTuple (Shared.heap ⟨hp.push { cls := .type "list_iterator", data := .fields #[.ref a, .int 0 0] }, g, d, tk, os⟩) b ys := Heap.IsTuple.push tb _
    wp_walk using wpAny_pyIter_list p1, wpAny_pyIter_tuple p2
    exact ⟨_, rfl, h⟩
theorem call_zm {a b : Addr} {xs ys : Array Value} {Q : Value → Shared → Prop} (la : s.heap.IsList a xs) (tb : s.heap.IsTuple b ys)
    (h : ∀ g, Zm g (s.heap.objs.size + 4) (s.heap.objs.size + 2) (s.heap.objs.size + 3) s.heap.objs.size (s.heap.objs.size + 1) a b 0 0 .none .none .none → (∀ c o, s.heap.get? c = some o → g.get? c = some o) → Q (.ref (s.heap.objs.size + 4)) { s with heap := g }) :
    wpAny (model prog w) A (call (.type "zip") [.ref a, .ref b]) Q E s := by
  refine callType_new F.called_zip (by decide) (F.typeCall_zip_2 _ _) (F.newCall_zip_2 _ _) (fun obj => F.args_object_init_3 obj _ _) F.entry_zip_new (meets_zm a b xs ys) ⟨la, tb, ?_⟩
  have q1 : (zm1 s.heap a).objs.size = s.heap.objs.size + 1 := Heap.size_push ..
  have q2 : (zm2 s.heap a b).objs.size = s.heap.objs.size + 2 := (Heap.size_push ..).trans (by rw [q1])
  have q3 : (zm3 s.heap a b).objs.size = s.heap.objs.size + 3 := (Heap.size_push ..).trans (by rw [q2])
  have q4 : (zm4 s.heap a b).objs.size = s.heap.objs.size + 4 := (Heap.size_push ..).trans (by rw [q3])
  have u4 : ∀ c o, (zm4 s.heap a b).get? c = some o → (zm5 s.heap a b).get? c = some o := fun c o e => Heap.get?_push_of_some _ e
  have u3 : ∀ c o, (zm3 s.heap a b).get? c = some o → (zm5 s.heap a b).get? c = some o := fun c o e => u4 c o (Heap.get?_push_of_some _ e)
  have u2 : ∀ c o, (zm2 s.heap a b).get? c = some o → (zm5 s.heap a b).get? c = some o := fun c o e => u3 c o (Heap.get?_push_of_some _ e)
  have u1 : ∀ c o, (zm1 s.heap a).get? c = some o → (zm5 s.heap a b).get? c = some o := fun c o e => u2 c o (Heap.get?_push_of_some _ e)
  have o1 : (zm5 s.heap a b).get? s.heap.objs.size = some _ := u1 _ _ (Heap.get?_push_size _ rfl)
  have o2 : (zm5 s.heap a b).get? (zm1 s.heap a).objs.size = some _ := u2 _ _ (Heap.get?_push_size _ rfl)
  have o3 : (zm5 s.heap a b).get? (zm2 s.heap a b).objs.size = some _ := u3 _ _ (Heap.get?_push_size _ rfl)
  have o4 : (zm5 s.heap a b).get? (zm3 s.heap a b).objs.size = some _ := u4 _ _ (Heap.get?_push_size _ rfl)
  have o5 : (zm5 s.heap a b).get? (zm4 s.heap a b).objs.size = some _ := Heap.get?_push_size _ rfl
  rw [q2, q3, q4] at o5
  rw [q1, q2] at o3
  rw [q3] at o4
  rw [q1] at o2
  show _ ∧ _
  rw [q4]
  exact ⟨⟨_, o5, rfl⟩, h _ ⟨o5, o3, o4, ⟨_, o1, rfl, rfl⟩, ⟨_, o2, rfl, rfl⟩⟩ fun c o e => u1 c o (Heap.get?_push_of_some _ e)⟩
end
/-! ### walked -/
/-- the list at a and the tuple at b as they stand at each turn, the items in new pairs -/
noncomputable def ItzM (K : PySem.W.Frag) (a b : Addr) : It :=
  ⟨fun i H => ∃ (vs us : List V) (v u : V), SqL K H a vs ∧ SqT K H b us ∧ vs[i]? = some v ∧ us[i]? = some u,
    fun i H r H' => ∃ q v u, r = .ref q ∧ H q = none ∧ H' = upd H q (.tup [v, u]) ∧ (∀ vs, SqL K H a vs → vs[i]? = some v) ∧ ∀ us, SqT K H b us → us[i]? = some u,
    fun i H => ∃ vs us : List V, SqL K H a vs ∧ SqT K H b us ∧ (vs.length ≤ i ∨ us.length ≤ i)⟩
theorem turn_zm {P : Program} {w : World} {K : PySem.W.Frag} {elts : List Expr} {kk : Nat} {tpos : Pos} {a b z TI TO i1 i2 : Addr} (D : ZipApart z TI TO i1 i2 a b) :
    Turn P w K (.Tuple elts kk tpos) (ItzM K a b) [z, TI, TO, i1, i2] z (fun i h => ∃ x y, Zm h z TI TO i1 i2 a b i i .none x y) where
  mem := by simp
  obj := fun i h ⟨x, y, Z⟩ c hc => by
    have hc' : c = z ∨ c = TI ∨ c = TO ∨ c = i1 ∨ c = i2 := by simpa using hc
    obtain ⟨o1, e1, _, d1⟩ := Z.l
    obtain ⟨o2, e2, _, d2⟩ := Z.t
    rcases hc' with rfl | rfl | rfl | rfl | rfl
    · exact ⟨_, Z.hz, fun v q => nomatch q⟩
    · exact ⟨_, Z.ti, fun v q => nomatch q⟩
    · exact ⟨_, Z.to, fun v q => nomatch q⟩
    · exact ⟨o1, e1, fun v q => by rw [d1] at q; cases q⟩
    · exact ⟨o2, e2, fun v q => by rw [d2] at q; cases q⟩
  keep := fun i h h' ⟨x, y, Z⟩ k => ⟨x, y, k z (by simp) _ Z.hz, k TI (by simp) _ Z.ti, k TO (by simp) _ Z.to, Z.l.at fun o q => k i1 (by simp) o q, Z.t.at fun o q => k i2 (by simp) o q⟩
  item := by
    intro X hP hw hK hc i pins s σ H E I hf ⟨x0, y0, Z⟩ ⟨vs, us, v, u, sl, st, gv, gu⟩
    subst hP hw hK
    obtain ⟨p, rv, pl, _⟩ := I.list sl
    obtain ⟨p', rv', pt, _⟩ := I.tuple st
    obtain ⟨x, ex, rx⟩ := rv.get gv
    obtain ⟨y, ey, ry⟩ := rv'.get gu
    have zl : z < s.heap.objs.size := Heap.lt_size Z.hz
    refine zm_item D Z pl.isList pt (x := x) (y := y) (by simpa using ex) (by simpa using ey) fun g Zg np sz kp => ⟨_, rfl, wpAny_letOwnedTupleGo_zip (s := { s with heap := g }) Zg.hz fun g' zg' sb => ?_⟩
    have np' : g'.get? s.heap.objs.size = some { cls := .type "tuple", data := .seq #[x, y] } := (sb.2 _ (Nat.ne_of_gt zl)).trans np
    have I1 : Inv X pins σ (upd H s.heap.objs.size (.tup [v, u])) { s with heap := g' } := I.turnedNew (t' := s.toks) (ch := [z, TI, TO, i1, i2]) (fun c o nc q => by
        simp only [List.mem_cons, List.not_mem_nil, or_false, not_or] at nc
        exact (sb.2 c nc.1).trans (kp c o (by simp [nc.1, nc.2.2.1, nc.2.2.2.1, nc.2.2.2.2]) q)) hf (Nat.le_refl _) ⟨by show 2 ≤ sizeLine; decide, [x, y], .cons rx (.cons ry .nil), ⟨_, np', rfl, _, rfl⟩⟩
    refine ⟨.ref s.heap.objs.size, _, I1, rfl, ⟨_, v, u, rfl, I.hok.fresh (Nat.le_refl _), rfl, fun l hl => by rw [I.list_inj hl sl]; exact gv, fun l hl => by rw [I.tuple_inj hl st]; exact gu⟩, ⟨x, y, zg', (sb.2 _ D.TIz).trans Zg.ti, (sb.2 _ D.TOz).trans Zg.to, Zg.l.at fun o q => (sb.2 _ D.i1z).trans q, Zg.t.at fun o q => (sb.2 _ D.i2z).trans q⟩, fun c hcm => ?_⟩
    have lt : c < s.heap.objs.size := by
      obtain ⟨o1, e1, _⟩ := Z.l
      obtain ⟨o2, e2, _⟩ := Z.t
      have hc' : c = z ∨ c = TI ∨ c = TO ∨ c = i1 ∨ c = i2 := by simpa using hcm
      rcases hc' with rfl | rfl | rfl | rfl | rfl
      · exact zl
      · exact Heap.lt_size Z.ti
      · exact Heap.lt_size Z.to
      · exact Heap.lt_size e1
      · exact Heap.lt_size e2
    rw [upd_ne (Nat.ne_of_lt lt)]
    exact (hf c hcm).1
  done := by
    intro X hP hw hK hc i pins s σ H E I hf ⟨x0, y0, Z⟩ ⟨vs, us, sl, st, ends⟩
    subst hP hw hK
    obtain ⟨p, rv, pl, _⟩ := I.list sl
    obtain ⟨p', rv', pt, _⟩ := I.tuple st
    have n1 := rv.length
    have n2 := rv'.length
    have out : p.toArray[i]? = none ∨ p'.toArray[i]? = none := by
      rcases ends with q | q
      · exact .inl (by simp; omega)
      · exact .inr (by simp; omega)
    refine zm_end (I.ok.hd hc) D Z pl.isList pt out fun g kp => ⟨rfl, I.turnedL (t' := s.toks) (ch := [z, TI, TO, i1, i2]) (fun c o nc q => ?_) hf⟩
    simp only [List.mem_cons, List.not_mem_nil, or_false, not_or] at nc
    exact kp c o (by simp [nc.1, nc.2.2.1, nc.2.2.2.1, nc.2.2.2.2]) q
  self := fun A i s Q E ⟨x, y, Z⟩ h => wpAny_pyIter_zip Z.hz h
/-- zip of two lists, of two tuples, of a list and a tuple -/
noncomputable def iZipAny (K : PySem.W.Frag) (ta : TA) : TI := fun σ H R => ta σ H fun vs H1 => ∃ a b xs ys, vs = [.ref a, .ref b] ∧ ((SqL K H1 a xs ∧ SqL K H1 b ys ∧ R (Itz K a b) H1) ∨ (SqT K H1 a xs ∧ SqT K H1 b ys ∧ R (RZ.ItzT K a b) H1) ∨ (SqL K H1 a xs ∧ SqT K H1 b ys ∧ R (ItzM K a b) H1) ∨ (SqT K H1 a xs ∧ SqL K H1 b ys ∧ R (ItzN K a b) H1))
theorem pi_zipAny {X : Cx} {e e2 : Expr} {ta : TA} {p pos tpos : Pos} {elts : List Expr} {kk : Nat} (hg : Gl X "zip") (hm : X.mg "zip" = none) (ha : PA X [e, e2] ta)
    (hs : starEach [e, e2] X.env = (false, eval e X.env) :: starEach [e2] X.env) (hpl : (backTo pos (starEach [e2] X.env)).any (·.1) = false) :
    PI X (.Tuple elts kk tpos) (.Call (.Name "zip" p) [e, e2] [] pos) (iZipAny X.K ta) := by
  refine ⟨fun pins s σ H R I h => Call_ (ld_blt I hg hm PyProof.Rows.boot_zip (PyProof.Rows.callWith_type1 (thn (ha.run pos pins s σ H _ I h) fun us s1 ⟨vs, H1, I1, r1, a, b, xs, ys, ex, q1⟩ => ?_) hs hpl))⟩
  subst ex
  obtain ⟨u, u', rfl, ru, ru'⟩ := vals2 r1
  cases ru
  cases ru'
  have five : ∀ c, c ∈ [s1.heap.objs.size + 4, s1.heap.objs.size + 2, s1.heap.objs.size + 3, s1.heap.objs.size, s1.heap.objs.size + 1] → FpOk X pins H1 c := fun c hcm => by
    have le : s1.heap.objs.size ≤ c := by
      have : c = s1.heap.objs.size + 4 ∨ c = s1.heap.objs.size + 2 ∨ c = s1.heap.objs.size + 3 ∨ c = s1.heap.objs.size ∨ c = s1.heap.objs.size + 1 := by simpa using hcm
      rcases this with z | z | z | z | z <;> rw [z] <;> first | exact Nat.le_add_right _ _ | exact Nat.le_refl _
    exact I1.fpOk le (I1.hok.fresh le)
  rcases q1 with ⟨sa, sb, q⟩ | ⟨sa, sb, q⟩ | ⟨sa, sb, q⟩ | ⟨sa, sb, q⟩
  · obtain ⟨_, _, p1, _⟩ := I1.list sa
    obtain ⟨_, _, p2, _⟩ := I1.list sb
    refine call_zip_2 p1.isList p2.isList fun g hz ti to l1 l2 _ kp => wpAny_pyIter_zip hz ?_
    exact ⟨_, [s1.heap.objs.size + 4, s1.heap.objs.size + 2, s1.heap.objs.size + 3, s1.heap.objs.size, s1.heap.objs.size + 1], _, _, H1, rfl, I1.kept (t' := s1.toks) kp, turn_zip (PySem.W.ktu_apart s1.heap.objs.size a b p1.lt p2.lt), ⟨hz, ti, ⟨_, _, to⟩, l1, l2⟩, five, q⟩
  · obtain ⟨_, _, p1, _⟩ := I1.tuple sa
    obtain ⟨_, _, p2, _⟩ := I1.tuple sb
    obtain ⟨o1, l1, _⟩ := id p1
    obtain ⟨o2, l2, _⟩ := id p2
    refine RZ.call_zipT p1 p2 fun g hz ti to t1 t2 _ kp => wpAny_pyIter_zip hz ?_
    exact ⟨_, [s1.heap.objs.size + 4, s1.heap.objs.size + 2, s1.heap.objs.size + 3, s1.heap.objs.size, s1.heap.objs.size + 1], _, _, H1, rfl, I1.kept (t' := s1.toks) kp, RZ.turn_zipT (PySem.W.ktu_apart s1.heap.objs.size a b (Heap.lt_size l1) (Heap.lt_size l2)), ⟨hz, ti, ⟨_, _, to⟩, t1, t2⟩, five, q⟩
  · obtain ⟨_, _, p1, _⟩ := I1.list sa
    obtain ⟨_, _, p2, _⟩ := I1.tuple sb
    obtain ⟨o2, l2, _⟩ := id p2
    refine call_zm p1.isList p2 fun g Z kp => wpAny_pyIter_zip Z.hz ?_
    exact ⟨_, [s1.heap.objs.size + 4, s1.heap.objs.size + 2, s1.heap.objs.size + 3, s1.heap.objs.size, s1.heap.objs.size + 1], _, _, H1, rfl, I1.kept (t' := s1.toks) kp, turn_zm (PySem.W.ktu_apart s1.heap.objs.size a b p1.lt (Heap.lt_size l2)), ⟨_, _, Z⟩, five, q⟩
  · obtain ⟨_, _, p1, _⟩ := I1.tuple sa
    obtain ⟨_, _, p2, _⟩ := I1.list sb
    obtain ⟨o1, l1, _⟩ := id p1
    refine call_zn p1 p2.isList fun g Z kp => wpAny_pyIter_zip Z.hz ?_
    exact ⟨_, [s1.heap.objs.size + 4, s1.heap.objs.size + 2, s1.heap.objs.size + 3, s1.heap.objs.size, s1.heap.objs.size + 1], _, _, H1, rfl, I1.kept (t' := s1.toks) kp, turn_zn (PySem.W.ktu_apart s1.heap.objs.size a b (Heap.lt_size l1) p2.lt), ⟨_, _, Z⟩, five, q⟩
theorem gives_zipM {G : Gm} {d e : D} {a b : Addr} {xs ys : List D} (hd : ∀ zs, d ≠ .tup zs) (he : ∃ zs, e = .tup zs) : Gives G (ItzM G.K a b) (zipL xs ys) (fun M => stayD d xs M ∧ stayD e ys M) [d, e] [.ref a, .ref b] := by
  have two : ∀ {ρ H α M}, RM G ρ H α M → RDs G ρ H α [d, e] [.ref a, .ref b] → stayD d xs M ∧ stayD e ys M → ∃ vs us, SqL G.K H a vs ∧ RDs G ρ H α xs vs ∧ SqT G.K H b us ∧ RDs G ρ H α ys us := by
    intro ρ H α M rm r st
    obtain ⟨v, u, ev, q1, q2⟩ := r.two
    cases ev
    rcases seq_at rm q1 st.1 with ⟨w, w1, w2, w3⟩ | ⟨w, w1, w2, zs, w3⟩
    · rcases seq_at rm q2 st.2 with ⟨w', v1, v2, v3⟩ | ⟨w', v1, v2, v3⟩
      · obtain ⟨zs, e0⟩ := he; exact absurd e0 (v3 zs)
      · exact ⟨w, w', w1, w2, v1, v2⟩
    · exact absurd w3 (hd zs)
  refine ⟨fun H => ∃ vs us, SqL G.K H a vs ∧ SqT G.K H b us ∧ vs.length = xs.length ∧ us.length = ys.length, fun i H v H' => ∃ T x y, v = .ref T ∧ H T = none ∧ H' = upd H T (.tup [x, y]) ∧ (∀ us, SqL G.K H a us → us[i]? = some x) ∧ ∀ us, SqT G.K H b us → us[i]? = some y,
    ⟨fun i H hi ⟨vs, us, h1, h2, h3, h4⟩ => ?_, fun H ⟨vs, us, h1, h2, h3, h4⟩ => ⟨vs, us, h1, h2, by rw [zipL_length, h3, h4]; omega⟩, fun i H x H' hi g y => y⟩, fun ρ H α M r rm st => ?_, fun ρ i H x H' α M r rm st hi ⟨T, x', y', e1, e2, e3, e4, e5⟩ => ?_⟩
  · rw [zipL_length] at hi
    exact ⟨vs, us, vs[i]'(by omega), us[i]'(by omega), h1, h2, List.getElem?_eq_getElem _, List.getElem?_eq_getElem _⟩
  · obtain ⟨vs, us, h1, h2, h3, h4⟩ := two rm r st
    exact ⟨vs, us, h1, h3, h2.length.symm, h4.length.symm⟩
  · obtain ⟨vs, us, h1, h2, h3, h4⟩ := two rm r st
    obtain ⟨d', h5, h6⟩ := h2.get' (e4 vs h1)
    obtain ⟨f', h7, h8⟩ := h4.get' (e5 us h3)
    subst e1 e3
    obtain ⟨p1, p2, p3⟩ := pair_new (d := d') (e := f') rm e2 h6 h8
    exact ⟨_, zipL_get h5 h7, p1, p2, p3⟩
theorem gives_zipN {G : Gm} {d e : D} {a b : Addr} {xs ys : List D} (hd : ∃ zs, d = .tup zs) (he : ∀ zs, e ≠ .tup zs) : Gives G (ItzN G.K a b) (zipL xs ys) (fun M => stayD d xs M ∧ stayD e ys M) [d, e] [.ref a, .ref b] := by
  have two : ∀ {ρ H α M}, RM G ρ H α M → RDs G ρ H α [d, e] [.ref a, .ref b] → stayD d xs M ∧ stayD e ys M → ∃ vs us, SqT G.K H a vs ∧ RDs G ρ H α xs vs ∧ SqL G.K H b us ∧ RDs G ρ H α ys us := by
    intro ρ H α M rm r st
    obtain ⟨v, u, ev, q1, q2⟩ := r.two
    cases ev
    rcases seq_at rm q1 st.1 with ⟨w, w1, w2, w3⟩ | ⟨w, w1, w2, w3⟩
    · obtain ⟨zs, e0⟩ := hd; exact absurd e0 (w3 zs)
    · rcases seq_at rm q2 st.2 with ⟨w', v1, v2, v3⟩ | ⟨w', v1, v2, zs, v3⟩
      · exact ⟨w, w', w1, w2, v1, v2⟩
      · exact absurd v3 (he zs)
  refine ⟨fun H => ∃ vs us, SqT G.K H a vs ∧ SqL G.K H b us ∧ vs.length = xs.length ∧ us.length = ys.length, fun i H v H' => ∃ T x y, v = .ref T ∧ H T = none ∧ H' = upd H T (.tup [x, y]) ∧ (∀ us, SqT G.K H a us → us[i]? = some x) ∧ ∀ us, SqL G.K H b us → us[i]? = some y,
    ⟨fun i H hi ⟨vs, us, h1, h2, h3, h4⟩ => ?_, fun H ⟨vs, us, h1, h2, h3, h4⟩ => ⟨vs, us, h1, h2, by rw [zipL_length, h3, h4]; omega⟩, fun i H x H' hi g y => y⟩, fun ρ H α M r rm st => ?_, fun ρ i H x H' α M r rm st hi ⟨T, x', y', e1, e2, e3, e4, e5⟩ => ?_⟩
  · rw [zipL_length] at hi
    exact ⟨vs, us, vs[i]'(by omega), us[i]'(by omega), h1, h2, List.getElem?_eq_getElem _, List.getElem?_eq_getElem _⟩
  · obtain ⟨vs, us, h1, h2, h3, h4⟩ := two rm r st
    exact ⟨vs, us, h1, h3, h2.length.symm, h4.length.symm⟩
  · obtain ⟨vs, us, h1, h2, h3, h4⟩ := two rm r st
    obtain ⟨d', h5, h6⟩ := h2.get' (e4 vs h1)
    obtain ⟨f', h7, h8⟩ := h4.get' (e5 us h3)
    subst e1 e3
    obtain ⟨p1, p2, p3⟩ := pair_new (d := d') (e := f') rm e2 h6 h8
    exact ⟨_, zipL_get h5 h7, p1, p2, p3⟩
section
variable {X : Cx} {cad : Cad} {W : WX} {pos : Pos}
theorem i_zip {Γ : Tab} {tg a b : Expr} {a' b' : E} {p : Pos} (ht : ∃ elts k q, tg = .Tuple elts k q) (hg : Gl X "zip") (hm : X.mg "zip" = none) (h : PEU X cad W a (wpE Γ a')) (h2 : PEU X cad W b (wpE Γ b')) (hs : starEach [a, b] X.env = (false, eval a X.env) :: starEach [b] X.env) (hs2 : starEach [b] X.env = [(false, eval b X.env)]) :
    PIU X cad W tg (.Call (.Name "zip" p) [a, b] [] pos) (wpI Γ (.zip a' b')) := by
  obtain ⟨elts, k, q, rfl⟩ := ht
  refine PImono (pi_zipAny (p := p) (pos := pos) hg hm (pa_cons h (pa_cons h2 pa_nil hs2) hs) hs (by rw [hs2]; rfl)) fun σ H R ⟨ρ, δ, α, M, Q', X', rs, rm, t, hq, hx⟩ => ?_
  simp only [wpI] at t
  refine ⟨ρ, δ, α, M, _, _, rs, rm, t, fun x M1 q v H1 α1 n1 r1 m1 => ?_, hx⟩
  refine ⟨ρ, δ, α1, M1, _, _, rs.nx n1, m1, q, fun y M2 q2 u H2 α2 n2 r2 m2 => ?_, fun c d M' x => (hx c d M' x).nx n1⟩
  obtain ⟨xs, e1, q3⟩ := q2.inv
  obtain ⟨ys, e2, q4, q5⟩ := q3.inv
  have r1' := r1.nx n2
  obtain ⟨ad, vs, rfl, sq, rs1⟩ := seq_of m2 r1' e1
  obtain ⟨bd, us, rfl, sq2, rs2⟩ := seq_of m2 r2 e2
  refine ⟨ad, bd, ?_⟩
  rcases seq_at m2 r1' e1 with ⟨ws, k1, k2, k3⟩ | ⟨ws, k1, k2, zs, k3⟩
  · rcases seq_at m2 r2 e2 with ⟨ws', l1, l2, l3⟩ | ⟨ws', l1, l2, l3⟩
    · exact ⟨ws, ws', rfl, .inl ⟨k1, l1, hq _ _ _ q5 _ _ _ [x, y] [.ref ad, .ref bd] (n1.trans n2) m2 (RDs.cons r1' (RDs.cons r2 .nil)) (gives_zipL k3 l3)⟩⟩
    · exact ⟨ws, ws', rfl, .inr (.inr (.inl ⟨k1, l1, hq _ _ _ q5 _ _ _ [x, y] [.ref ad, .ref bd] (n1.trans n2) m2 (RDs.cons r1' (RDs.cons r2 .nil)) (gives_zipM k3 l3)⟩))⟩
  · rcases seq_at m2 r2 e2 with ⟨ws', l1, l2, l3⟩ | ⟨ws', l1, l2, zs', l3⟩
    · exact ⟨ws, ws', rfl, .inr (.inr (.inr ⟨k1, l1, hq _ _ _ q5 _ _ _ [x, y] [.ref ad, .ref bd] (n1.trans n2) m2 (RDs.cons r1' (RDs.cons r2 .nil)) (gives_zipN ⟨_, k3⟩ l3)⟩))⟩
    · exact ⟨ws, ws', rfl, .inr (.inl ⟨k1, l1, hq _ _ _ q5 _ _ _ [x, y] [.ref ad, .ref bd] (n1.trans n2) m2 (RDs.cons r1' (RDs.cons r2 .nil)) (gives_zipT ⟨_, k3⟩ ⟨_, l3⟩)⟩)⟩
end
end AA
/-! AA5r: repr. -/
namespace AA
open PySem PySem.Spec L2
open PyProof.Rows hiding St
theorem cr_repr {X : Cx} (gd : X.A.guards = some []) (hu : X.A.units + 64 < cLine) : CallR X (.builtin "repr") (rReprD X.K PyData.shown) := by
  intro pins s σ H xs us Q I r h
  obtain ⟨x, p, rfl, dp, ⟨h1, h2, h3, h4⟩, q⟩ := h
  obtain ⟨u, rfl, rx⟩ := vals1 r
  obtain ⟨as, rd⟩ := Dp.reads I p x u dp rx
  have hsz : p.shown.length ≤ sizeLine := h4
  cases rd with
  | none => exact PySem.P.repr_of_none ⟨.str _, H, I.tok _, ⟨_, rfl⟩, by simpa only [PyData.shown] using q⟩
  | bool b => exact PySem.P.repr_of_bool ⟨.str _, H, I.tok _, ⟨_, rfl⟩, by cases b <;> simpa only [PyData.shown] using q⟩
  | int i t => exact PySem.P.repr_of_int (by simpa [PyData.showable] using h1) ⟨.str _, H, I.tok _, ⟨_, rfl⟩, by simpa only [PyData.shown] using q⟩
  | str y t => exact PySem.P.repr_of_str ⟨.str _, H, I.tok _, ⟨_, rfl⟩, by simpa only [PyData.shown] using q⟩ (by simpa only [PyData.shown] using hsz)
  | list e1 e2 e3 e4 => exact repr_of_reads' (.list e1 e2 e3 e4) h1 (PyData.noDict_hsm h2) gd (by omega) (fun _ _ e => e) (fun h' w tk k => ⟨.str _, H, I.kept k, ⟨_, rfl⟩, q⟩) hsz
  | tuple e1 e2 e3 e4 => exact repr_of_reads' (.tuple e1 e2 e3 e4) h1 (PyData.noDict_hsm h2) gd (by omega) (fun _ _ e => e) (fun h' w tk k => ⟨.str _, H, I.kept k, ⟨_, rfl⟩, q⟩) hsz
  | dict e1 e2 e3 e4 e5 => simp [PyData.hasDict] at h2
end AA
/-! AA6: targets, comprehensions, statements. -/
namespace AA
open PySem PySem.Spec L2
open PyProof.Rows hiding St

/-! ### targets -/
mutual
noncomputable def slotsT : T → List Nat
  | .nm i => [i]
  | .tp ts => slotsTs ts
noncomputable def slotsTs : Ts → List Nat
  | .nil => []
  | .cons t ts => slotsT t ++ slotsTs ts
end
noncomputable def SameBut (l : List Nat) (σ σ' : St) : Prop := ∀ vs : List Nat, (∀ i ∈ l, i ∈ vs) → wipe σ' vs = wipe σ vs
noncomputable def upg (G : Gm) (t : T) : TG := fun v σ H Q => ∃ ρ δ α M d δ', RS G ρ H α δ σ ∧ RM G ρ H α M ∧ RD G ρ H α d v ∧ bindT t d δ = some δ' ∧ ∀ σ', RS G ρ H α δ' σ' → SameBut (slotsT t) σ σ' → Q σ' H
noncomputable def upgs (G : Gm) (t : Ts) : TGs := fun v σ H Q => ∃ ρ δ α M d δ', RS G ρ H α δ σ ∧ RM G ρ H α M ∧ RDs G ρ H α d v ∧ bindT.bindTs t d δ = some δ' ∧ ∀ σ', RS G ρ H α δ' σ' → SameBut (slotsTs t) σ σ' → Q σ' H
theorem PGmono {X : Cx} {e : Expr} {t t' : TG} (h : PG X e t) (f : ∀ v σ H Q, t' v σ H Q → t v σ H Q) : PG X e t' := ⟨fun pins s σ H v u Q I r q => h.run pins s σ H v u Q I r (f _ _ _ _ q)⟩
theorem PGsmono {X : Cx} {e : List Expr} {t t' : TGs} (h : PGs X e t) (f : ∀ v σ H Q, t' v σ H Q → t v σ H Q) : PGs X e t' := ⟨fun pins s σ H v u Q I r q => h.run pins s σ H v u Q I r (f _ _ _ _ q)⟩
theorem wipe_set1 (σ : St) (i : Nat) (v : Option V) : ∀ us : List Nat, (wipe (σ.set i v) us).set i none = (wipe σ us).set i none
  | [] => by unfold wipe; rw [List.set_set]
  | w :: ws => by
    unfold wipe
    by_cases h : w = i
    · subst h
      rw [List.set_set, List.set_set]; exact wipe_set1 σ w v ws
    · rw [List.set_comm _ _ h, List.set_comm _ _ h, wipe_set1 σ i v ws]
theorem wipe_set {σ : St} {i : Nat} {v : Option V} : ∀ {vs : List Nat}, i ∈ vs → wipe (σ.set i v) vs = wipe σ vs
  | u :: us, h => by
    unfold wipe
    by_cases e : u = i
    · subst e; exact wipe_set1 σ u v us
    · rw [wipe_set (vs := us) ((List.mem_cons.mp h).resolve_left fun z => e z.symm)]
theorem wipe_idem (σ : St) : ∀ (us vs : List Nat), (∀ i ∈ us, i ∈ vs) → wipe (wipe σ us) vs = wipe σ vs
  | [], vs, _ => rfl
  | u :: us, vs, h => by
    have e : wipe σ (u :: us) = (wipe σ us).set u none := by rw [wipe]
    rw [e, wipe_set (h u List.mem_cons_self), wipe_idem σ us vs fun i hi => h i (List.mem_cons_of_mem _ hi)]
section
variable {X : Cx} {cad : Cad} {W : WX} {pos : Pos}
theorem g_name {i : Nat} {x : Str} (hN : X.N.Nodup) (hi : X.N[i]? = some x) (hx : Loc X.env.scope x) (hf : X.fn x = true ∨ X.env.scope.names.lookup x = some .local) : PG X (.Name x pos) (upg (gx X cad) (.nm i)) :=
  PGmono (pg_name hN hi hx hf) fun v σ H Q ⟨ρ, δ, α, M, d, δ', rs, rm, r, e, q⟩ => by
    simp only [bindT, Option.some.injEq] at e
    subst e
    exact q _ (rs.set r i) fun vs h => wipe_set (h i (by simp [slotsT]))
theorem gs_nil : PGs X [] (upgs (gx X cad) .nil) := PGsmono pgs_nil fun v σ H Q ⟨ρ, δ, α, M, d, δ', rs, rm, r, e, q⟩ => by
  cases d with
  | nil =>
    simp only [bindT.bindTs, Option.some.injEq] at e
    subst e
    exact ⟨r, q _ rs fun vs h => rfl⟩
  | cons _ _ => simp [bindT.bindTs] at e
theorem gs_cons {e : Expr} {es : List Expr} {t : T} {ts : Ts} (h1 : PG X e (upg (gx X cad) t)) (h2 : PGs X es (upgs (gx X cad) ts)) (hs : (assignEach (e :: es) X.env).map (·.2) = assign e X.env :: (assignEach es X.env).map (·.2)) : PGs X (e :: es) (upgs (gx X cad) (.cons t ts)) :=
  PGsmono (pgs_cons h1 h2 hs) fun v σ H Q ⟨ρ, δ, α, M, d, δ', rs, rm, r, e, q⟩ => by
    cases d with
    | nil => simp [bindT.bindTs] at e
    | cons d ds =>
      obtain ⟨u, us, rfl, r1, r2⟩ := r
      simp only [bindT.bindTs] at e
      cases e1 : bindT t d δ with
      | none => rw [e1] at e; cases e
      | some δ1 =>
        rw [e1] at e
        refine ⟨u, us, rfl, ρ, δ, α, M, d, δ1, rs, rm, r1, e1, fun σ' rs' w' => ⟨ρ, δ1, α, M, ds, δ', rs', rm, r2, e, fun σ2 rs2 w2 => q σ2 rs2 fun vs h => ?_⟩⟩
        rw [w2 vs fun i hi => h i (by simp [slotsTs, hi]), w' vs fun i hi => h i (by simp [slotsTs, hi])]
/-- a tuple or a list taken apart -/
theorem pg_any {es : List Expr} {k : Nat} {t : TGs} {n : Nat} (hc : X.calm = true) (h : PGs X es t) (hn : (assignEach es X.env).length = n) (hst : (assignEach es X.env).findIdx? (·.1) = none) :
    PG X (.Tuple es k pos) (fun v σ H Q => gTup X.K n t v σ H Q ∨ gLst X.K n t v σ H Q) :=
  ⟨fun pins s σ H v u Q I r hw => by
    rcases hw with hw | hw
    · exact (pg_tup (k := k) (pos := pos) hc h hn hst).run pins s σ H v u Q I r hw
    · exact (pg_lst (k := k) (pos := pos) hc h hn hst).run pins s σ H v u Q I r hw⟩
theorem g_tup {es : List Expr} {k n : Nat} {ts : Ts} (hc : X.calm = true) (h : PGs X es (upgs (gx X cad) ts)) (hn : (assignEach es X.env).length = n) (hst : (assignEach es X.env).findIdx? (·.1) = none)
    (hl : ∀ (ds : List D) δ δ', bindT.bindTs ts ds δ = some δ' → ds.length = n) : PG X (.Tuple es k pos) (upg (gx X cad) (.tp ts)) :=
  PGmono (pg_any (pos := pos) (k := k) hc h hn hst) fun v σ H Q ⟨ρ, δ, α, M, d, δ', rs, rm, r, e, q⟩ => by
    cases d <;> simp only [bindT] at e <;> try contradiction
    · rename_i ds
      obtain ⟨a, vs, rfl, t, r'⟩ := r
      exact .inl ⟨a, vs, rfl, t.sqt, by rw [← r'.length]; exact hl _ _ _ e, ρ, δ, α, M, ds, δ', rs, rm, r', e, fun σ' h1 h2 => q σ' h1 h2⟩
    rename_i ds
    obtain ⟨a, vs, rfl, t, r'⟩ := r
    exact .inr ⟨a, vs, rfl, t.sql, by rw [← r'.length]; exact hl _ _ _ e, ρ, δ, α, M, ds, δ', rs, rm, r', e, fun σ' h1 h2 => q σ' h1 h2⟩
noncomputable def lenTs : Ts → Nat
  | .nil => 0
  | .cons _ ts => lenTs ts + 1
theorem bindTs_len : ∀ (ts : Ts) (ds : List D) δ δ', bindT.bindTs ts ds δ = some δ' → ds.length = lenTs ts
  | .nil, [], δ, δ', _ => rfl
  | .nil, _ :: _, δ, δ', h => by simp [bindT.bindTs] at h
  | .cons t ts, [], δ, δ', h => by simp [bindT.bindTs] at h
  | .cons t ts, d :: ds, δ, δ', h => by
    simp only [bindT.bindTs] at h
    cases e1 : bindT t d δ with
    | none => rw [e1] at h; cases h
    | some δ1 =>
      rw [e1] at h
      rw [List.length_cons, bindTs_len ts ds δ1 δ' h]; rfl

/-! ### comprehensions -/
theorem PTsmono {e : List Expr} {t t' : TT} (h : PTs X e t) (f : ∀ σ H Q, t' σ H Q → t σ H Q) : PTs X e t' := ⟨fun pins s σ H Q I q => h.run pins s σ H Q I (f _ _ _ q)⟩
theorem ts_nil {Γ : Tab} : PTs X [] (upt (gx X cad) W (wpC Γ .no)) := PTsmono pts_nil fun σ H Qv ⟨ρ, δ, α, M, Q', X', rs, rm, t, hq, hx⟩ => hq _ _ (by simpa only [wpC] using t) _ _ (Nx.refl ..) rm
end
section
variable {X : Cx} {cad : Cad} {W : WX}
theorem ts_one {Γ : Tab} {c : Expr} {c' : E} (h : PTU X cad W c (wpT Γ c')) : PTs X [c] (upt (gx X cad) W (wpC Γ (.so c'))) := by
  have q := pts_one h
  simpa only [wpC] using q
end
theorem RM.rhoAdd {G : Gm} {ρ α : List Addr} {H : Hp} {M : Mem} {p : Addr} {o : HO} (r : RM G ρ H α M) (h : H p = none) (t : notTbl o := by intro ps z; cases z) : RM G (p :: ρ) (upd H p o) α M := by
  have r' := r.new (o := o) h
  refine ⟨r'.len, r'.nd, fun b hb z => ?_, r'.tab, fun n a mo h1 h2 => ?_⟩
  · rcases List.mem_cons.mp hb with e | hb
    · rw [e] at z; exact z.no upd_same t
    · exact r'.rho b hb z
  · have q := r.at_ n a mo h1 h2
    have ne : a ≠ p := by
      obtain ⟨u, e⟩ := r.mem (List.mem_of_getElem? h1)
      exact ne_of_none e h
    cases mo with
    | lst ds => obtain ⟨vs, e, q⟩ := q; exact ⟨vs, by rw [upd_ne ne]; exact e, RDs.rho h _ _ q⟩
    | dct kvs => obtain ⟨vs, e, q1, q⟩ := q; exact ⟨vs, by rw [upd_ne ne]; exact e, q1, RDs.rho h _ _ q⟩
    | ins c fs => obtain ⟨dx, vs, e, q1, q⟩ := q; exact ⟨dx, vs, by rw [upd_ne ne]; exact e, q1, RDs.rho h _ _ q⟩
theorem RS.rhoAdd {G : Gm} {ρ α : List Addr} {H : Hp} {p : Addr} {o : HO} {δ : Dst} {σ : St} (r : RS G ρ H α δ σ) (h : H p = none) : RS G (p :: ρ) (upd H p o) α δ σ :=
  ⟨r.1, fun i d e => let ⟨v, h1, h2⟩ := r.2 i d e; ⟨v, h1, RD.rho h _ _ h2⟩⟩
theorem Own.weak {ρ ρ' α : List Addr} {H : Hp} {a : Addr} {o : HO} (w : Own ρ' H α a o) (hs : ∀ b ∈ ρ, b ∈ ρ') : Own ρ H α a o := ⟨w.1, fun z => w.2.1 (hs _ z), w.2.2⟩
mutual
theorem RD.weak {G : Gm} {ρ ρ' α : List Addr} {H : Hp} (hs : ∀ b ∈ ρ, b ∈ ρ') : ∀ (d : D) (v : V), RD G ρ' H α d v → RD G ρ H α d v
  | .non, v, r => r
  | .bl _, v, r => r
  | .int _, v, r => r
  | .str _, v, r => r
  | .tup xs, v, r => by
    obtain ⟨a, vs, e, t, rs⟩ := r
    refine ⟨a, vs, e, ?_, RDs.weak hs xs vs rs⟩
    rcases t with t | t
    · exact .inl (t.weak hs)
    · exact .inr t
  | .lst xs, v, r => by
    obtain ⟨a, vs, e, t, rs⟩ := r
    refine ⟨a, vs, e, ?_, RDs.weak hs xs vs rs⟩
    rcases t with t | t
    · exact .inl (t.weak hs)
    · exact .inr t
  | .ref k, v, r => r
  | .dic0, v, r => by
    obtain ⟨a, e, t⟩ := r
    exact ⟨a, e, t.weak hs⟩
  | .dts ks, v, r => by
    obtain ⟨a, L, e, t, h1, h2⟩ := r
    refine ⟨a, L, e, t.weak hs, h1, fun p hp => ?_⟩
    rcases h2 p hp with t | t
    · exact .inl (t.weak hs)
    · exact .inr t
  | .exc c d, v, r => by
    obtain ⟨a, dx, dv, e, na, ra, ha, nd, rd, hd, r⟩ := r
    exact ⟨a, dx, dv, e, na, fun z => ra (hs _ z), ha, nd, fun z => rd (hs _ z), hd, RD.weak hs d dv r⟩
theorem RDs.weak {G : Gm} {ρ ρ' α : List Addr} {H : Hp} (hs : ∀ b ∈ ρ, b ∈ ρ') : ∀ (ds : List D) (vs : List V), RDs G ρ' H α ds vs → RDs G ρ H α ds vs
  | [], vs, r => r
  | d :: ds, vs, r => by
    obtain ⟨v, vs', e, r1, rs⟩ := r
    exact ⟨v, vs', e, RD.weak hs d v r1, RDs.weak hs ds vs' rs⟩
end
theorem RM.weak {G : Gm} {ρ ρ' α : List Addr} {H : Hp} {M : Mem} (r : RM G ρ' H α M) (hs : ∀ b ∈ ρ, b ∈ ρ') : RM G ρ H α M :=
  ⟨r.len, r.nd, fun b hb => r.rho b (hs b hb), r.tab, fun n a mo h1 h2 => by
    have q := r.at_ n a mo h1 h2
    cases mo with
    | lst ds => obtain ⟨vs, e, q⟩ := q; exact ⟨vs, e, RDs.weak hs _ _ q⟩
    | dct kvs => obtain ⟨vs, e, q1, q⟩ := q; exact ⟨vs, e, q1, RDs.weak hs _ _ q⟩
    | ins c fs => obtain ⟨dx, vs, e, q1, q⟩ := q; exact ⟨dx, vs, e, q1, RDs.weak hs _ _ q⟩⟩
theorem Nx.drop {α α' : List Addr} {H H' : Hp} {p : Addr} {o : HO} (n : Nx [p] α (upd H p o) α' H') (h : H p = none) : Nx [] α H α' H' := by
  obtain ⟨β, e, hb⟩ := n.pre
  refine ⟨⟨β, e, fun b hb' => ?_⟩, fun a u e1 t ha _ => ?_, fun a e1 => ?_⟩
  · have z := hb b hb'
    by_cases hbp : b = p
    · exact .inl (by rw [hbp]; exact h)
    · unfold Fre at z ⊢; rwa [upd_ne hbp] at z
  · have ne : a ≠ p := ne_of_none e1 h
    exact n.keep a u (by rw [upd_ne ne]; exact e1) t ha (by simp [ne])
  · have z := n.stay a e1
    by_cases hbp : a = p
    · exact .inl (by rw [hbp]; exact h)
    · unfold Fre at z ⊢; rwa [upd_ne hbp] at z
theorem Nx.wk {χ χ' α α' : List Addr} {H H' : Hp} (n : Nx χ α H α' H') (hs : ∀ b ∈ χ, b ∈ χ') : Nx χ' α H α' H' := ⟨n.pre, fun a o h t h1 h2 => n.keep a o h t h1 fun z => h2 (hs _ z), n.stay⟩
theorem Nx.at1 {α : List Addr} {H : Hp} {p : Addr} {o u : HO} (h : H p = some u) (t : notTbl o := by intro ps z; cases z) : Nx [p] α H α (upd H p o) :=
  ⟨⟨[], by simp⟩, fun a v e _ _ hr => by rw [upd_ne (by simpa using hr)]; exact e, fun a e => by
    by_cases z : a = p
    · rw [z] at e; exact (e.no upd_same t).elim
    · unfold Fre at e ⊢; rwa [upd_ne z] at e⟩
/-- a reserved thing is written -/
theorem RM.at1 {G : Gm} {ρ α : List Addr} {H : Hp} {M : Mem} {p : Addr} {vs ws : List V} (r : RM G ρ H α M) (h : H p = some (.lst vs)) (hp : p ∉ α) (hr : p ∈ ρ) : RM G ρ (upd H p (.lst ws)) α M :=
  ⟨r.len, r.nd, fun b hb z => r.rho b hb ((Nx.at1 (α := α) (o := .lst ws) h).stay b z), tabs_at r.tab h (fun ps z => by cases z) (fun c q z => by unfold LamX.CodeO at z; cases z), fun k a mo h1 h2 => (r.at_ k a mo h1 h2).nx (Nx.at1 (α := α) (o := .lst ws) h) (upd_ne fun z => hp (by rw [← z]; exact List.mem_of_getElem? h1)) fun b hb => by rw [List.mem_singleton.mp hb]; exact hr⟩
theorem Nx.numAdd {χ α α' : List Addr} {H H' : Hp} {p : Addr} (n : Nx χ α H α' H') (h : Fre H p) : Nx χ α H (α' ++ [p]) H' := by
  obtain ⟨β, e, hb⟩ := n.pre
  refine ⟨⟨β ++ [p], by rw [e, List.append_assoc], fun b hb' => ?_⟩, n.keep, n.stay⟩
  rcases List.mem_append.mp hb' with z | z
  · exact hb b z
  · rw [List.mem_singleton.mp z]; exact h
theorem Own.mv {ρ α : List Addr} {H : Hp} {a p : Addr} {o : HO} (w : Own (p :: ρ) H α a o) : Own ρ H (α ++ [p]) a o := by
  obtain ⟨h1, h2, h3⟩ := w
  simp only [List.mem_cons, not_or] at h2
  exact ⟨by simp [h1, h2.1], h2.2, h3⟩
mutual
theorem RD.mv {G : Gm} {ρ α : List Addr} {H : Hp} {p : Addr} : ∀ (d : D) (v : V), RD G (p :: ρ) H α d v → RD G ρ H (α ++ [p]) d v
  | .non, v, r => r
  | .bl _, v, r => r
  | .int _, v, r => r
  | .str _, v, r => r
  | .tup xs, v, r => by
    obtain ⟨a, vs, e, t, rs⟩ := r
    refine ⟨a, vs, e, ?_, RDs.mv xs vs rs⟩
    rcases t with t | t
    · exact .inl t.mv
    · exact .inr t
  | .lst xs, v, r => by
    obtain ⟨a, vs, e, t, rs⟩ := r
    refine ⟨a, vs, e, ?_, RDs.mv xs vs rs⟩
    rcases t with t | t
    · exact .inl t.mv
    · exact .inr t
  | .ref k, v, r => by
    obtain ⟨a, e, t⟩ := r
    exact ⟨a, e, by rw [List.getElem?_append_left (List.getElem?_eq_some_iff.mp t).1]; exact t⟩
  | .dic0, v, r => by
    obtain ⟨a, e, t⟩ := r
    exact ⟨a, e, t.mv⟩
  | .dts ks, v, r => by
    obtain ⟨a, L, e, t, h1, h2⟩ := r
    refine ⟨a, L, e, t.mv, h1, fun p hp => ?_⟩
    rcases h2 p hp with t | t
    · exact .inl t.mv
    · exact .inr t
  | .exc c d, v, r => by
    obtain ⟨a, dx, dv, e, na, ra, ha, nd, rd, hd, r⟩ := r
    simp only [List.mem_cons, not_or] at ra rd
    exact ⟨a, dx, dv, e, by simp [na, ra.1], ra.2, ha, by simp [nd, rd.1], rd.2, hd, RD.mv d dv r⟩
theorem RDs.mv {G : Gm} {ρ α : List Addr} {H : Hp} {p : Addr} : ∀ (ds : List D) (vs : List V), RDs G (p :: ρ) H α ds vs → RDs G ρ H (α ++ [p]) ds vs
  | [], vs, r => r
  | d :: ds, vs, r => by
    obtain ⟨v, vs', e, r1, rs⟩ := r
    exact ⟨v, vs', e, RD.mv d v r1, RDs.mv ds vs' rs⟩
end
theorem RM.numAdd {G : Gm} {ρ α : List Addr} {H : Hp} {M : Mem} {p : Addr} {xs : List D} {vs : List V} (r : RM G (p :: ρ) H α M) (hp : p ∉ α) (h : H p = some (.lst vs)) (q : RDs G (p :: ρ) H α xs vs) : RM G ρ H (α ++ [p]) (M ++ [.lst xs]) := by
  refine ⟨by simp [r.len], ?_, fun b hb => r.rho b (List.mem_cons_of_mem _ hb), r.tab, fun k a mo' h1 h2 => ?_⟩
  · exact List.nodup_append.mpr ⟨r.nd, by simp, fun a ha b hb z => hp (by rw [← List.mem_singleton.mp hb, ← z]; exact ha)⟩
  · by_cases hk : k < α.length
    · rw [List.getElem?_append_left hk] at h1
      rw [List.getElem?_append_left (by rw [← r.len]; exact hk)] at h2
      have z := r.at_ k a mo' h1 h2
      cases mo' with
      | lst ds => obtain ⟨vs, e, q⟩ := z; exact ⟨vs, e, RDs.mv _ _ q⟩
      | dct kvs => obtain ⟨vs, e, q1, q⟩ := z; exact ⟨vs, e, q1, RDs.mv _ _ q⟩
      | ins c fs => obtain ⟨dx, vs, e, q1, q⟩ := z; exact ⟨dx, vs, e, q1, RDs.mv _ _ q⟩
    · have hl := (List.getElem?_eq_some_iff.mp h1).1
      have e : k = α.length := by simp at hl; omega
      subst e
      rw [List.getElem?_append_right (Nat.le_refl _)] at h1
      rw [List.getElem?_append_right (by rw [r.len]; exact Nat.le_refl _)] at h2
      simp [r.len] at h1 h2
      subst h1 h2
      exact ⟨vs, h, RDs.mv _ _ q⟩
section
variable {X : Cx} {cad : Cad} {W : WX} {pos : Pos}
/-- the end of a comprehension: a read-only list, or a numbered one -/
noncomputable def endC (m : Bool) (Q : DK) : List D → Mem → Prop := fun ys M2 => if m = true then Q (.ref M2.length) (M2 ++ [.lst ys]) else Q (.lst ys) M2
theorem comp_up {Γ : Tab} {G : Gm} {m : Bool} {own : List (Str × Nat)} {t : T} {it : I} {c : Op} {e : E} {W' : WX} (ho : ∀ i ∈ slotsT t, i ∈ own.map (·.2)) :
    ∀ σ H Qv, up G W (wpE Γ (.comp m own t it c e)) σ H Qv → tLc (upi G W (wpI Γ it)) (upg G t) (upt G W' (wpC Γ c)) (up G W' (wpE Γ e)) (own.map (·.2)) σ H Qv := by
  rintro σ H Qv ⟨ρ, δ, α, M, Q', X', rs, rm, t0, hq, hx⟩
  have t1 : wpI Γ it δ M (fun xs stay M1 => compD (bindT t) (wpC Γ c) (wpE Γ e) stay (dwipe δ (own.map (·.2))) (endC m Q') xs [] M1) X' := by
    cases m <;> (simp only [wpE] at t0; exact t0)
  clear t0
  refine ⟨ρ, δ, α, M, _, _, rs, rm, t1, fun xs stay M1 q J H1 α1 ks kvs n1 m1 r1 g D hD => ?_, hx⟩
  obtain ⟨Gd, Y, w, hg, hy⟩ := g
  have hDα : D ∉ α1 := fun z => by obtain ⟨u, eu⟩ := m1.mem z; rw [hD] at eu; cases eu
  refine ⟨fun i n H => n = xs.length - i ∧ i ≤ xs.length ∧ ∃ α' M' acc av, Nx [D] α1 (upd H1 D (.lst [])) α' H ∧ RM G (D :: ρ) H α' M' ∧ H D = some (.lst av) ∧ RDs G (D :: ρ) H α' acc av ∧
    compD (bindT t) (wpC Γ c) (wpE Γ e) stay (dwipe δ (own.map (·.2))) (endC m Q') (xs.drop i) acc M', ⟨xs.length, by simp, Nat.zero_le _, α1, M1, [], [], Nx.refl .., m1.rhoAdd hD, upd_same, .nil, by simpa using q⟩, ?_⟩
  rintro i n H2 ⟨rfl, hi, α2, M2, acc, av, n2, m2, hD2, ra, cd⟩
  have sub1 : ∀ b ∈ [D], b ∈ D :: ρ := fun b hb => by rw [List.mem_singleton.mp hb]; exact List.mem_cons_self
  have kk : RDs G (D :: ρ) H2 α2 ks kvs := (RDs.rho (o := .lst []) hD _ _ r1).nx n2 sub1
  have hDα2 : D ∉ α2 := n2.notin upd_same hDα
  by_cases hlt : i < xs.length
  · have ed : xs.drop i = xs[i] :: xs.drop (i + 1) := List.drop_eq_getElem_cons hlt
    rw [ed] at cd
    obtain ⟨st, cd⟩ := cd
    obtain ⟨δ', eb, cd⟩ := cd.inv
    refine .inr ⟨w.goes i H2 hlt (hg _ _ _ _ kk m2 st), fun H => i + 1 ≤ xs.length ∧ ∃ α' M' acc av, Nx [D] α1 (upd H1 D (.lst [])) α' H ∧ RM G (D :: ρ) H α' M' ∧ H D = some (.lst av) ∧ RDs G (D :: ρ) H α' acc av ∧
      compD (bindT t) (wpC Γ c) (wpE Γ e) stay (dwipe δ (own.map (·.2))) (endC m Q') (xs.drop (i + 1)) acc M', fun H' p' => ⟨xs.length - (i + 1), by omega, rfl, p'⟩, fun x H3 y => ?_⟩
    obtain ⟨d, e1, n3, r3, m3⟩ := hy _ i H2 x H3 _ _ kk m2 st hlt (w.yields i H2 x H3 hlt (hg _ _ _ _ kk m2 st) y)
    rw [List.getElem?_eq_getElem hlt] at e1
    cases e1
    have hD3 : H3 D = some (.lst av) := n3.keep D _ hD2 (fun ps z => by cases z) hDα2 (by simp)
    have n23 : Nx [D] α1 (upd H1 D (.lst [])) α2 H3 := n2.trans (n3.wk fun b hb => by cases hb)
    have rs3 : RS G (D :: ρ) H3 α2 (dwipe δ (own.map (·.2))) (wipe σ (own.map (·.2))) := (((rs.nx n1).rhoAdd (o := .lst []) hD).nx n23 sub1).wipe _
    refine ⟨D :: ρ, dwipe δ (own.map (·.2)), α2, M2, xs[i], δ', rs3, m3, r3, eb, fun σ' rs' sb => ⟨?_, ?_⟩⟩
    · rw [sb _ ho]; exact wipe_idem σ _ _ fun i hi => hi
    refine ⟨D :: ρ, δ', α2, M2, _, _, rs', m3, cd, fun b M4 q4 H4 α4 n4 m4 => ?_, fun c d M' z => z.elim⟩
    have hD4 : H4 D = some (.lst av) := n4.keep D _ hD3 (fun ps z => by cases z) hDα2 (by simp)
    have hDα4 : D ∉ α4 := n4.notin hD3 hDα2
    have n24 : Nx [D] α1 (upd H1 D (.lst [])) α4 H4 := n23.trans (n4.wk fun b hb => by cases hb)
    have ra4 : RDs G (D :: ρ) H4 α4 acc av := (ra.nx n3).nx n4
    cases b with
    | false =>
      simp only [Bool.false_eq_true, if_false] at q4 ⊢
      exact ⟨hlt, α4, M4, acc, av, n24, m4, hD4, ra4, q4⟩
    | true =>
      simp only [if_true] at q4 ⊢
      refine ⟨D :: ρ, δ', α4, M4, _, _, rs'.nx n4, m4, q4, fun y' M5 q5 v5 H5 α5 n5 r5 m5 => ?_, fun c d M' z => z.elim⟩
      have hD5 : H5 D = some (.lst av) := n5.keep D _ hD4 (fun ps z => by cases z) hDα4 (by simp)
      have hDα5 : D ∉ α5 := n5.notin hD4 hDα4
      have n25 : Nx [D] α1 (upd H1 D (.lst [])) α5 H5 := n24.trans (n5.wk fun b hb => by cases hb)
      have ra5 : RDs G (D :: ρ) H5 α5 acc av := ra4.nx n5
      have nu : Nx [D] α5 H5 α5 (upd H5 D (.lst (av ++ [v5]))) := Nx.at1 hD5
      refine ⟨av, hD5, by rw [sizeLine_eq, ← ra.length]; exact q5.1, hlt, α5, M5, acc ++ [y'], av ++ [v5], n25.trans nu, m5.at1 hD5 hDα5 List.mem_cons_self, upd_same, ?_, q5.2⟩
      exact (ra5.append (RDs.cons r5 .nil)).nx nu sub1
  · have e : i = xs.length := by omega
    subst e
    rw [List.drop_length] at cd
    obtain ⟨st, cd⟩ := cd
    refine .inl ⟨w.stops H2 (hg _ _ _ _ kk m2 st), ?_⟩
    have nn : Nx [] α H α2 H2 := n1.trans (n2.drop hD)
    have m2' := m2.weak fun b hb => List.mem_cons_of_mem D hb
    have ra' := RDs.weak (fun b hb => List.mem_cons_of_mem D hb) _ _ ra
    cases m with
    | false =>
      have cd : Q' (.lst acc) M2 := cd
      exact hq _ _ cd _ _ _ nn ⟨D, av, rfl, .inl ⟨hDα2, fun z => m1.rho D z (.inl hD), .inl hD2⟩, ra'⟩ m2'
    | true =>
      have cd : Q' (.ref M2.length) (M2 ++ [.lst acc]) := cd
      refine hq _ _ cd _ _ (α2 ++ [D]) (nn.numAdd (n1.stay D (.inl hD))) ⟨D, rfl, ?_⟩ (m2.numAdd hDα2 hD2 ra)
      rw [← m2.len, List.getElem?_append_right (Nat.le_refl _)]; simp
end
end AA
/-! AA7: statements. -/
namespace AA
open PySem PySem.Spec L2
open PyProof.Rows hiding St
section
variable {X : Cx} {cad : Cad} {W : WX} {pos : Pos}
theorem EL.wx {G : Gm} {ρ α : List Addr} {H : Hp} {E' : DE} {E : Ends} (el : EL G W ρ α H E' E) {δ : Dst} {σ : L2.St} (rs : RS G ρ H α δ σ) {c : Nat} {d : D} {M' : Mem} (x : E'.xc c d δ M') : AA.wx G W ρ α H σ c d M' :=
  fun dx dv H' α' n a b e r m => el.xc c d δ M' x dx dv σ H' α' n a b e r (rs.nx n) m
theorem s_ex {Γ : Tab} {e : Expr} {e' : E} (hs : swapsWith e none pos.line X.env = pure false) (h : PEU X cad W e (wpE Γ e')) : PSU X cad W (.Expr e pos) (wpS Γ (.ex e')) :=
  (ps_expr h hs).mono fun D σ H ⟨ρ, δ, α, M, E', rs, rm, t, el⟩ => by
    simp only [wpS] at t
    exact ⟨ρ, δ, α, M, _, _, rs, rm, t, fun d M1 q v H1 α1 n1 r1 m1 => el.nx _ _ q _ _ _ n1 (rs.nx n1) m1, fun c d M' x => el.wx rs x⟩
theorem s_doc {Γ : Tab} {x j pos' } : PSU X cad W (.Expr (.Constant (.str x) j pos) pos') (wpS Γ .pass) :=
  ps_doc.mono fun D σ H ⟨ρ, δ, α, M, E', rs, rm, t, el⟩ => by
    simp only [wpS] at t
    exact el.nx _ _ t _ _ _ (Nx.refl ..) rs rm
theorem asg_up {Γ : Tab} {G : Gm} {e' : E} {t : T} : ∀ D σ H, ups G W (wpS Γ (.asg t e')) D σ H → tAsg (up G W (wpE Γ e')) (upg G t) D σ H := by
  rintro D σ H ⟨ρ, δ, α, M, E', rs, rm, t, el⟩
  simp only [wpS] at t
  refine ⟨ρ, δ, α, M, _, _, rs, rm, t, fun d M1 q v H1 α1 n1 r1 m1 => ?_, fun c d M' x => el.wx rs x⟩
  obtain ⟨δ', eb, q⟩ := q.inv
  exact ⟨ρ, δ, α1, M1, d, δ', rs.nx n1, m1, r1, eb, fun σ' rs' _ => el.nx _ _ q _ _ _ n1 rs' m1⟩
theorem s_asg {Γ : Tab} {tg e : Expr} {e' : E} {t : T} (h : PEU X cad W e (wpE Γ e')) (hg : PG X tg (upg (gx X cad) t)) (hs : swapsWithSole [tg] e pos.line X.env = pure false) (hw : swappedStores [tg] e X.env = pure none)
    (h1 : (assignEach [tg] X.env).map (·.2) = [assign tg X.env]) : PSU X cad W (.Assign [tg] e pos) (wpS Γ (.asg t e')) := (ps_asg h hg hs hw h1).mono asg_up
theorem s_asgl {Γ : Tab} {es : List Expr} {k n : Nat} {p : Pos} {e : Expr} {ts : Ts} {e' : E} (hc : X.calm = true) (h : PEU X cad W e (wpE Γ e')) (hg : PGs X es (upgs (gx X cad) ts)) (hn : (assignEach es X.env).length = n) (hst : (assignEach es X.env).findIdx? (·.1) = none)
    (hl : ∀ (ds : List D) δ δ', bindT.bindTs ts ds δ = some δ' → ds.length = n) (hs : swapsWithSole [.Tuple es k p] e pos.line X.env = pure false) (hw : swappedStores [.Tuple es k p] e X.env = pure none) : PSU X cad W (.Assign [.Tuple es k p] e pos) (wpS Γ (.asgl ts e')) :=
  (ps_asg h (pg_any (pos := p) (k := k) hc hg hn hst) hs hw (by rfl)).mono fun D σ H ⟨ρ, δ, α, M, E', rs, rm, t, el⟩ => by
    simp only [wpS] at t
    refine ⟨ρ, δ, α, M, _, _, rs, rm, t, fun d M1 q v H1 α1 n1 r1 m1 => ?_, fun c d M' x => el.wx rs x⟩
    obtain ⟨i, xs, rfl, hm, q1⟩ := numL.inv q
    obtain ⟨δ', eb, q2⟩ := bndD.inv q1
    obtain ⟨a, rfl, ha⟩ := r1
    obtain ⟨vs, h1, h2⟩ := m1.get ha hm
    exact .inr ⟨a, vs, rfl, SqL.of h1, by rw [← h2.length]; exact hl _ _ _ eb, ρ, δ, α1, M1, xs, δ', rs.nx n1, m1, h2, eb, fun σ' rs' _ => el.nx _ _ q2 _ _ _ n1 rs' m1⟩
theorem s_asgc {Γ : Tab} {i : Nat} {y : Str} {py p : Pos} {elt tg iter : Expr} {ifs : List Expr} {scope : Scope} {own : List (Str × Nat)} {m : Bool} {t : T} {it : I} {c : Op} {e : E} (hc : X.calm = true) (hN : X.N.Nodup) (hy : X.N[i]? = some y) (hyl : X.env.scope.names.lookup y = some .local)
    (hsw : swapsWith (.ListComp elt [⟨tg, iter, ifs, 0⟩] scope p) (some (.Name y py)) pos.line X.env = pure true) (hi : PIU X cad W tg iter (wpI Γ it)) (ok : BlkOk X.N X.env.scope scope own) (ho : ∀ i ∈ slotsT t, i ∈ own.map (·.2))
    (hg : ∀ (s : Shared) (H : Hp) (C : Addr) (cl : List (Str × Addr)) (fp : List Addr), PG (X.blk s H scope (compEnvC scope cl C X.env) fp) tg (upg (gx X cad) t))
    (ht : ∀ (s : Shared) (H : Hp) (C : Addr) (cl : List (Str × Addr)) (fp : List Addr), PTs (X.blk s H scope (compEnvC scope cl C X.env) fp) ifs (upt (gx X cad) (fun _ _ _ _ => False) (wpC Γ c)))
    (he : ∀ (s : Shared) (H : Hp) (C : Addr) (cl : List (Str × Addr)) (fp : List Addr), PE (X.blk s H scope (compEnvC scope cl C X.env) fp) elt (up (gx X cad) (fun _ _ _ _ => False) (wpE Γ e))) (hs : ∀ x, foldedSetIterable iter X.env x = pure x) :
    PSU X cad W (.Assign [.Name y py] (.ListComp elt [⟨tg, iter, ifs, 0⟩] scope p) pos) (wpS Γ (.asgc i (.comp m own t it c e))) :=
  (ps_setLc (pos := p) (spos := pos) (py := py) hc hN hy hyl hsw hi ok hg ht he hs).mono fun D σ H ⟨ρ, δ, α, M, E', rs, rm, t0, el⟩ => by
    simp only [wpS] at t0
    refine comp_up (W' := fun _ _ _ _ => False) (G := gx X cad) (W := W) (Γ := Γ) (m := m) ho σ H _ ⟨ρ, δ, α, M, _, _, rs, rm, t0, fun d M1 q v H1 α1 n1 r1 m1 => ?_, fun c d M' x => el.wx rs x⟩
    exact el.nx _ _ q _ _ _ n1 ((rs.nx n1).set r1 i) m1
theorem u_comp {Γ : Tab} {p : Pos} {elt tg iter : Expr} {ifs : List Expr} {scope : Scope} {own : List (Str × Nat)} {m : Bool} {t : T} {it : I} {c : Op} {e : E} (hc : X.calm = true) (hN : X.N.Nodup)
    (hi : PIU X cad W tg iter (wpI Γ it)) (ok : BlkOk X.N X.env.scope scope own) (ho : ∀ i ∈ slotsT t, i ∈ own.map (·.2))
    (hg : ∀ (s : Shared) (H : Hp) (C : Addr) (cl : List (Str × Addr)) (fp : List Addr), PG (X.blk s H scope (compEnvC scope cl C X.env) fp) tg (upg (gx X cad) t))
    (ht : ∀ (s : Shared) (H : Hp) (C : Addr) (cl : List (Str × Addr)) (fp : List Addr), PTs (X.blk s H scope (compEnvC scope cl C X.env) fp) ifs (upt (gx X cad) (fun _ _ _ _ => False) (wpC Γ c)))
    (he : ∀ (s : Shared) (H : Hp) (C : Addr) (cl : List (Str × Addr)) (fp : List Addr), PE (X.blk s H scope (compEnvC scope cl C X.env) fp) elt (up (gx X cad) (fun _ _ _ _ => False) (wpE Γ e))) (hs : ∀ x, foldedSetIterable iter X.env x = pure x) :
    PEU X cad W (.ListComp elt [⟨tg, iter, ifs, 0⟩] scope p) (wpE Γ (.comp m own t it c e)) :=
  (pe_lc (pos := p) hc hN hi ok hg ht he hs).mono (comp_up (W' := fun _ _ _ _ => False) (G := gx X cad) (W := W) (Γ := Γ) (m := m) ho)
theorem s_ret {Γ : Tab} {e : Expr} {e' : E} (h : PEU X cad W e (wpE Γ e')) : PSU X cad W (.Return (some e) pos) (wpS Γ (.ret e')) :=
  (ps_ret h).mono fun D σ H ⟨ρ, δ, α, M, E', rs, rm, t, el⟩ => by
    simp only [wpS] at t
    exact ⟨ρ, δ, α, M, _, _, rs, rm, t, fun d M1 q => el.rt _ _ q, fun c d M' x => el.wx rs x⟩
theorem s_retn {Γ : Tab} : PSU X cad W (.Return none pos) (wpS Γ .retn) :=
  ps_retN.mono fun D σ H ⟨ρ, δ, α, M, E', rs, rm, t, el⟩ => by
    simp only [wpS] at t
    exact el.rt _ _ t _ _ _ (Nx.refl ..) rfl rm
theorem s_pass {Γ : Tab} : PSU X cad W (.Pass pos) (wpS Γ .pass) :=
  ps_pass.mono fun D σ H ⟨ρ, δ, α, M, E', rs, rm, t, el⟩ => by
    simp only [wpS] at t
    exact el.nx _ _ t _ _ _ (Nx.refl ..) rs rm
theorem s_brk {Γ : Tab} : PSU X cad W (.Break pos) (wpS Γ .brk) :=
  ps_break.mono fun D σ H ⟨ρ, δ, α, M, E', rs, rm, t, el⟩ => by
    simp only [wpS] at t
    exact el.bk _ _ t _ _ _ (Nx.refl ..) rs rm
theorem s_cont {Γ : Tab} : PSU X cad W (.Continue pos) (wpS Γ .cont) :=
  ps_continue.mono fun D σ H ⟨ρ, δ, α, M, E', rs, rm, t, el⟩ => by
    simp only [wpS] at t
    exact el.ct _ _ t _ _ _ (Nx.refl ..) rs rm
theorem s_if {Γ : Tab} {c : Expr} {a b : List Stmt} {c' : E} {a' b' : Ss} (hc : PTU X cad W c (wpT Γ c')) (ha : PSsU X cad W a (wpSs Γ a')) (hb : PSsU X cad W b (wpSs Γ b')) : PSU X cad W (.If c a b pos) (wpS Γ (.if_ c' a' b')) :=
  (ps_if hc ha hb).mono fun D σ H ⟨ρ, δ, α, M, E', rs, rm, t, el⟩ => by
    simp only [wpS] at t
    refine ⟨ρ, δ, α, M, _, _, rs, rm, t, fun b M1 q H1 α1 n1 m1 => ?_, fun c d M' x => el.wx rs x⟩
    cases b with
    | true => simp only [if_true] at q ⊢; exact ⟨ρ, δ, α1, M1, E', rs.nx n1, m1, q, el.nx' n1⟩
    | false => simp only [Bool.false_eq_true, if_false] at q ⊢; exact ⟨ρ, δ, α1, M1, E', rs.nx n1, m1, q, el.nx' n1⟩
theorem ss_nil {Γ : Tab} : PSsU X cad W [] (wpSs Γ .nil) :=
  pss_nil.mono fun D σ H ⟨ρ, δ, α, M, E', rs, rm, t, el⟩ => by
    simp only [wpSs] at t
    exact el.nx _ _ t _ _ _ (Nx.refl ..) rs rm
theorem ss_cons {Γ : Tab} {s : Stmt} {ss : List Stmt} {s' : S} {ss' : Ss} (h1 : PSU X cad W s (wpS Γ s')) (h2 : PSsU X cad W ss (wpSs Γ ss')) : PSsU X cad W (s :: ss) (wpSs Γ (.cons s' ss')) :=
  (pss_cons h1 h2).mono fun D σ H ⟨ρ, δ, α, M, E', rs, rm, t, el⟩ => by
    simp only [wpSs] at t
    exact ⟨ρ, δ, α, M, _, rs, rm, t, ⟨fun δ1 M1 q σ1 H1 α1 n1 r1 m1 => ⟨ρ, δ1, α1, M1, E', r1, m1, q, el.nx' n1⟩, el.rt, el.bk, el.ct, el.xc⟩⟩
theorem s_for {Γ : Tab} {tg iter : Expr} {body : List Stmt} {t : T} {it : I} {b' : Ss} (hp : PassesOwn (model X.prog X.w) X.A X.env X.xe) (hc : X.calm = true) (hi : PIU X cad W tg iter (wpI Γ it)) (hg : PG X tg (upg (gx X cad) t)) (hb : PSsU X cad W body (wpSs Γ b'))
    (hs : ∀ x, foldedSetIterable iter X.env x = pure x) : PSU X cad W (.For tg iter body [] pos) (wpS Γ (.for_ t it b')) :=
  (ps_for hp hc hi hg hb hs).mono fun D σ H ⟨ρ, δ, α, M, E', rs, rm, t0, el⟩ => by
    simp only [wpS] at t0
    refine ⟨ρ, δ, α, M, _, _, rs, rm, t0, fun xs stay M1 q J H1 α1 ks kvs n1 m1 r1 g => ?_, fun c d M' x => el.wx rs x⟩
    obtain ⟨Gd, Y, w, hg, hy⟩ := g
    refine ⟨fun i n σ H => n = xs.length - i ∧ i ≤ xs.length ∧ ∃ δ α' M', Nx [] α1 H1 α' H ∧ RS (gx X cad) ρ H α' δ σ ∧ RM (gx X cad) ρ H α' M' ∧ forD (bindT t) (wpSs Γ b') stay E' (xs.drop i) δ M',
      ⟨xs.length, by simp, Nat.zero_le _, δ, α1, M1, Nx.refl .., rs.nx n1, m1, by simpa using q⟩, ?_⟩
    rintro i n σ2 H2 ⟨rfl, hi, δ2, α2, M2, n2, rs2, m2, fd⟩
    have kk := r1.nx n2
    by_cases hlt : i < xs.length
    · have ed : xs.drop i = xs[i] :: xs.drop (i + 1) := List.drop_eq_getElem_cons hlt
      rw [ed] at fd
      obtain ⟨st, fd⟩ := fd
      obtain ⟨δ', eb, fd⟩ := fd.inv
      refine .inr ⟨w.goes i H2 hlt (hg _ _ _ _ kk m2 st), fun σ H => i + 1 ≤ xs.length ∧ ∃ δ α' M', Nx [] α1 H1 α' H ∧ RS (gx X cad) ρ H α' δ σ ∧ RM (gx X cad) ρ H α' M' ∧ forD (bindT t) (wpSs Γ b') stay E' (xs.drop (i + 1)) δ M', fun σ' H' p' => ⟨xs.length - (i + 1), by omega, rfl, p'⟩, fun x H3 y => ?_⟩
      obtain ⟨d, e1, n3, r3, m3⟩ := hy _ i H2 x H3 _ _ kk m2 st hlt (w.yields i H2 x H3 hlt (hg _ _ _ _ kk m2 st) y)
      rw [List.getElem?_eq_getElem hlt] at e1
      cases e1
      refine ⟨ρ, δ2, α2, M2, xs[i], δ', rs2.nx n3, m3, r3, eb, fun σ' rs' _ => ⟨ρ, δ', α2, M2, _, rs', m3, fd, ?_⟩⟩
      have n23 := n2.trans n3
      have again : ∀ δ M, forD (bindT t) (wpSs Γ b') stay E' (xs.drop (i + 1)) δ M → ws (gx X cad) ρ α2 H3 (fun σ H => i + 1 ≤ xs.length ∧ ∃ δ α' M', Nx [] α1 H1 α' H ∧ RS (gx X cad) ρ H α' δ σ ∧ RM (gx X cad) ρ H α' M' ∧ forD (bindT t) (wpSs Γ b') stay E' (xs.drop (i + 1)) δ M') δ M :=
        fun δ M q σ4 H4 α4 n4 r4 m4 => ⟨hlt, δ, α4, M, n23.trans n4, r4, m4, q⟩
      have el' := el.nx' (n1.trans n23)
      exact ⟨again, el'.rt, el'.nx, again, el'.xc⟩
    · have e : i = xs.length := by omega
      subst e
      rw [List.drop_length] at fd
      obtain ⟨st, fd⟩ := fd
      exact .inl ⟨w.stops H2 (hg _ _ _ _ kk m2 st), el.nx _ _ fd _ _ _ (n1.trans n2) rs2 m2⟩
theorem s_while {Γ : Tab} {c : Expr} {body : List Stmt} {c' : E} {b' : Ss} (hp : PassesOwn (model X.prog X.w) X.A X.env X.xe) (hc : PTU X cad W c (wpT Γ c')) (hb : PSsU X cad W body (wpSs Γ b')) : PSU X cad W (.While c body [] pos) (wpS Γ (.while_ c' b')) :=
  (ps_while hp hc hb).mono fun D σ H ⟨ρ, δ, α, M, E', rs, rm, t0, el⟩ => by
    simp only [wpS] at t0
    obtain ⟨n, t0⟩ := t0
    refine ⟨fun n σ2 H2 => ∃ δ2 α2 M2, Nx [] α H α2 H2 ∧ RS (gx X cad) ρ H2 α2 δ2 σ2 ∧ RM (gx X cad) ρ H2 α2 M2 ∧ whileN (wpT Γ c') (wpSs Γ b') E' n δ2 M2, ⟨n, δ, α, M, Nx.refl .., rs, rm, t0⟩, ?_⟩
    rintro n σ2 H2 ⟨δ2, α2, M2, n2, rs2, m2, q2⟩
    cases n with
    | zero => exact q2.elim
    | succ n =>
      refine ⟨ρ, δ2, α2, M2, _, _, rs2, m2, q2, fun b M3 q3 H3 α3 n3 m3 => ?_, fun c d M' x => x.elim⟩
      have el' := el.nx' (n2.trans n3)
      cases b with
      | true =>
        simp only [if_true] at q3 ⊢
        refine ⟨fun σ4 H4 => ∃ δ4 α4 M4, Nx [] α H α4 H4 ∧ RS (gx X cad) ρ H4 α4 δ4 σ4 ∧ RM (gx X cad) ρ H4 α4 M4 ∧ whileN (wpT Γ c') (wpSs Γ b') E' n δ4 M4, fun σ' H' p' => ⟨n, Nat.lt_succ_self _, p'⟩, ρ, δ2, α3, M3, _, rs2.nx n3, m3, q3, ?_⟩
        have again : ∀ δ M, whileN (wpT Γ c') (wpSs Γ b') E' n δ M → ws (gx X cad) ρ α3 H3 (fun σ4 H4 => ∃ δ4 α4 M4, Nx [] α H α4 H4 ∧ RS (gx X cad) ρ H4 α4 δ4 σ4 ∧ RM (gx X cad) ρ H4 α4 M4 ∧ whileN (wpT Γ c') (wpSs Γ b') E' n δ4 M4) δ M :=
          fun δ M q σ4 H4 α4 n4 r4 m4 => ⟨δ, α4, M, (n2.trans n3).trans n4, r4, m4, q⟩
        exact ⟨again, el'.rt, el'.nx, again, el'.xc⟩
      | false =>
        simp only [Bool.false_eq_true, if_false] at q3 ⊢
        exact el'.nx _ _ q3 _ _ _ (Nx.refl ..) (rs2.nx n3) m3
theorem s_par {Γ : Tab} {i j : Nat} {x y : Str} {a b : Expr} {a' b' : E} {px py pt : Pos} {kt k2 pt2} (hc : X.calm = true) (hN : X.N.Nodup) (hi : X.N[i]? = some x) (hj : X.N[j]? = some y) (hij : i ≠ j)
    (hx : X.env.scope.names.lookup x = some .local) (hy : X.env.scope.names.lookup y = some .local) (ha : PAU X cad W [a, b] (wpEs Γ (.cons a' (.cons b' .nil))))
    (hw : swappedStores [.Tuple [.Name x px, .Name y py] kt pt] (.Tuple [a, b] k2 pt2) X.env = pure (some [x, y]))
    (hs : swapsWithSole [.Tuple [.Name x px, .Name y py] kt pt] (.Tuple [a, b] k2 pt2) pos.line X.env = pure false) :
    PSU X cad W (.Assign [.Tuple [.Name x px, .Name y py] kt pt] (.Tuple [a, b] k2 pt2) pos) (wpS Γ (.par i j a' b')) :=
  (ps_par hc hN hi hj hij hx hy ha hw hs).mono fun D σ H ⟨ρ, δ, α, M, E', rs, rm, t, el⟩ => by
    simp only [wpS] at t
    refine ⟨ρ, δ, α, M, _, _, rs, rm, t, fun ds M1 q vs H1 α1 n1 r1 m1 => ?_, fun c d M' x => el.wx rs x⟩
    obtain ⟨x, y, e, q⟩ := q.inv
    subst e
    obtain ⟨v, u, rfl, r1, r2⟩ := r1.two
    exact ⟨v, u, rfl, el.nx _ _ q _ _ _ n1 (((rs.nx n1).set r1 i).set r2 j) m1⟩
theorem s_par3 {Γ : Tab} {i j l : Nat} {x y z : Str} {a b c : Expr} {a' b' c' : E} {px py pz pt : Pos} {kt k2 pt2} (hc : X.calm = true) (hN : X.N.Nodup) (hi : X.N[i]? = some x) (hj : X.N[j]? = some y) (hl : X.N[l]? = some z) (hij : i ≠ j) (hil : i ≠ l) (hjl : j ≠ l)
    (hx : X.env.scope.names.lookup x = some .local) (hy : X.env.scope.names.lookup y = some .local) (hz : X.env.scope.names.lookup z = some .local) (ha : PAU X cad W [a, b, c] (wpEs Γ (.cons a' (.cons b' (.cons c' .nil)))))
    (hw : swappedStores [.Tuple [.Name x px, .Name y py, .Name z pz] kt pt] (.Tuple [a, b, c] k2 pt2) X.env = pure (some [x, y, z]))
    (hs : swapsWithSole [.Tuple [.Name x px, .Name y py, .Name z pz] kt pt] (.Tuple [a, b, c] k2 pt2) pos.line X.env = pure false) :
    PSU X cad W (.Assign [.Tuple [.Name x px, .Name y py, .Name z pz] kt pt] (.Tuple [a, b, c] k2 pt2) pos) (wpS Γ (.par3 i j l a' b' c')) :=
  (L2.ps_par3 hc hN hi hj hl hij hil hjl hx hy hz ha hw hs).mono fun D σ H ⟨ρ, δ, α, M, E', rs, rm, t, el⟩ => by
    simp only [wpS] at t
    refine ⟨ρ, δ, α, M, _, _, rs, rm, t, fun ds M1 q vs H1 α1 n1 r1 m1 => ?_, fun c d M' x => el.wx rs x⟩
    obtain ⟨x, y, z, e, q⟩ := q.inv
    subst e
    obtain ⟨v, vs', rfl, r1, r2⟩ := r1
    obtain ⟨u, w, rfl, r2, r3⟩ := RDs.two r2
    exact ⟨v, u, w, rfl, el.nx _ _ q _ _ _ n1 ((((rs.nx n1).set r1 i).set r2 j).set r3 l) m1⟩

/-! ### lists changed -/
theorem s_seti {Γ : Tab} {o i e : Expr} {o' i' e' : E} {p : Pos} (hu : X.A.units + 64 < cLine) (ho : PEU X cad W o (wpE Γ o')) (hi : PEU X cad W i (wpE Γ i')) (he : PEU X cad W e (wpE Γ e')) (hs : swapsWithSole [.Subscript o i p] e pos.line X.env = pure false) (hw : swappedStores [.Subscript o i p] e X.env = pure none)
    (h1 : (assignEach [.Subscript o i p] X.env).map (·.2) = [assign (.Subscript o i p) X.env])
    (ha : ∀ v, assign (.Subscript o i p) X.env v = (do
      let ov ← holding [v] (eval o X.env)
      let iv ← holding [v, ov] (eval i X.env)
      standAt p
      holding [v, ov, iv] (setItem ov iv v)
      release [v, ov, iv] [])) : PSU X cad W (.Assign [.Subscript o i p] e pos) (wpS Γ (.seti o' i' e')) :=
  (ps_asg he (pg_sub ho hi (set_or set_list (set_dic (Nat.lt_of_le_of_lt (Nat.add_le_add_left (by decide) _) hu))) ha) hs hw h1).mono fun D σ H ⟨ρ, δ, α, M, E', rs, rm, t, el⟩ => by
    simp only [wpS] at t
    refine ⟨ρ, δ, α, M, _, _, rs, rm, t, fun d M1 q v H1 α1 n1 r1 m1 => ?_, fun c d M' x => el.wx rs x⟩
    refine ⟨ρ, δ, α1, M1, _, _, rs.nx n1, m1, q, fun x M2 q2 u H2 α2 n2 r2 m2 => ?_, fun c d M' x => (el.wx rs x).nx n1⟩
    refine ⟨ρ, δ, α2, M2, _, _, rs.nx (n1.trans n2), m2, q2, fun y M3 q3 w H3 α3 n3 r3 m3 => ?_, fun c d M' x => (el.wx rs x).nx (n1.trans n2)⟩
    rcases q3.inv with ⟨n, xs, k, j, rfl, hm, rfl, hj, q6⟩ | ⟨n, kvs, key, rfl, hm, hkey, hl, q6⟩
    · cases r3
      obtain ⟨a, rfl, hα⟩ := r2.nx n3
      obtain ⟨us, h1, h2⟩ := m3.get hα hm
      have r1' := r1.nx (n2.trans n3)
      have nw : Nx [] α3 H3 α3 (upd H3 a (.lst (us.set j v))) := Nx.write h1 (List.mem_of_getElem? hα)
      refine .inl ⟨a, us, k, j, rfl, rfl, h1, by rw [← h2.length]; exact hj, ?_⟩
      refine el.nx _ _ q6 _ _ _ (((n1.trans n2).trans n3).trans nw) (rs.nx (((n1.trans n2).trans n3).trans nw)) (m3.write hα ⟨_, upd_same, (h2.set r1' j).nx nw⟩)
    · obtain ⟨a, rfl, hα⟩ := r2.nx n3
      obtain ⟨us, h1, h2, h3⟩ := m3.get hα hm
      have r1' := r1.nx (n2.trans n3)
      have nw : Nx [] α3 H3 α3 (upd H3 a (.dK (putK us key v))) := Nx.write h1 (List.mem_of_getElem? hα)
      refine .inr ⟨a, us, key, rfl, keyD_rel hkey r3, h1, by rw [sizeLine_eq, ← len_rel h2]; exact hl, ?_⟩
      obtain ⟨p1, p2⟩ := put_rel (key := key) h2 h3 r1'
      refine el.nx _ _ q6 _ _ _ (((n1.trans n2).trans n3).trans nw) (rs.nx (((n1.trans n2).trans n3).trans nw)) (m3.write hα ⟨_, upd_same, p1, p2.nx nw⟩)
/-- o.append(e) -/
theorem u_app {Γ : Tab} {o e : Expr} {o' e' : E} {ap : Pos} (ho : PEU X cad W o (wpE Γ o')) (he : PEU X cad W e (wpE Γ e')) (hbase : attributeBase o "append" X.env (eval o X.env) = eval o X.env)
    (hfew : ((backTo pos (starEach [e] X.env)).all (fun x => !x.1) && (backToKw pos (keywordEach [] X.env)).all (fun x => x.1.isSome)
      && decide ([e].length + ([] : List Keyword).length + (if ([] : List Keyword).isEmpty then 0 else 1) < 30)) = true)
    (hline : (ap.endLine == pos.line) = true) (hs : starEach [e] X.env = (false, eval e X.env) :: starEach [] X.env) : PEU X cad W (.Call (.Attribute o "append" ap) [e] [] pos) (wpE Γ (.app o' e')) :=
  (pe_bm (apos := ap) (cpos := pos) PySem.F.plainAttrs_list PySem.F.slot_list_append PySem.F.type_list_append mt_append ho (pa_cons he pa_nil hs) hbase hfew hline hs rfl).mono fun σ H Qv ⟨ρ, δ, α, M, Q', X', rs, rm, t, hq, hx⟩ => by
    simp only [wpE] at t
    refine ⟨ρ, δ, α, M, _, _, rs, rm, t, fun x M1 q v H1 α1 n1 r1 m1 => ?_, hx⟩
    obtain ⟨n, xs, rfl, hm, q2⟩ := q.inv
    obtain ⟨a, rfl, hα⟩ := id r1
    obtain ⟨us, h1, h2⟩ := m1.get hα hm
    refine ⟨.inl ⟨rfl, us, SqL.of h1⟩, ρ, δ, α1, M1, _, _, rs.nx n1, m1, q2, fun y M2 q3 u H2 α2 n2 r2 m2 => ?_, fun c d M' x => (hx c d M' x).nx n1⟩
    obtain ⟨n', ys, e1, hm2, hlt, q4⟩ := q3.inv
    cases e1
    have hα2 := num_nx n2 hα
    obtain ⟨ws, k1, k2⟩ := m2.get hα2 hm2
    have nw : Nx [] α2 H2 α2 (upd H2 a (.lst (ws ++ [u]))) := Nx.write k1 (List.mem_of_getElem? hα2)
    exact ⟨a, ws, u, rfl, rfl, k1, by rw [sizeLine_eq, ← k2.length]; exact hlt, hq _ _ q4 _ _ _ ((n1.trans n2).trans nw) rfl (m2.write hα2 ⟨_, upd_same, (k2.append (RDs.cons r2 .nil)).nx nw⟩)⟩
/-- list.extend of any list that is read -/
noncomputable def rExtendR : V → List V → Hp → VK → Prop := fun x vs H Q => ∃ l b xs zs, x = .ref l ∧ vs = [.ref b] ∧ H l = some (.lst xs) ∧ H b = some (.lst zs) ∧ xs.length + zs.length ≤ sizeLine ∧ Q .non (upd H l (.lst (xs ++ zs)))
theorem mt_extendR : MtM X "list.extend" rExtendR := by
  intro pins s σ H x vs v us Q I rx rv h
  obtain ⟨l, b, xs, zs, rfl, rfl, hH, hB, hz, q⟩ := h
  cases rx
  obtain ⟨u, rfl, ru⟩ := rv.one
  cases ru
  obtain ⟨z, its, n, r, hl, e⟩ := I.lstM hH
  obtain ⟨z2, its2, n2, r2, e2⟩ := I.hok b _ hB
  have hl2 := r2.length
  have hsz : its.toArray.size + its2.toArray.size ≤ sizeLine := by rw [List.size_toArray, List.size_toArray]; omega
  have hlong : ¬ (!its.toArray.isEmpty && Builtin.List.listTooLong (its.toArray.size + its2.toArray.size)) = true := by
    rw [notLongL hsz, Bool.and_false]
    exact Bool.false_ne_true
  refine call_meets F.slot_list_extend ⟨_, e, rfl⟩ F.entry_list_extend (F.args_list_extend_2 _ _)
    (AutoSeq1.list_extend_list_list_0 l its.toArray n b its2.toArray n2 hlong (by rw [List.size_toArray]; omega) (by omega)) ⟨e, e2, ?_⟩
  refine ⟨.non, _, I.lset (its' := its ++ its2) hH e (by simp) (r.append r2) ?_, rfl, q⟩
  rw [List.length_append]
  omega
theorem u_ext {Γ : Tab} {o e : Expr} {o' e' : E} {ap : Pos} (ho : PEU X cad W o (wpE Γ o')) (he : PEU X cad W e (wpE Γ e')) (hbase : attributeBase o "extend" X.env (eval o X.env) = eval o X.env)
    (hfew : ((backTo pos (starEach [e] X.env)).all (fun x => !x.1) && (backToKw pos (keywordEach [] X.env)).all (fun x => x.1.isSome)
      && decide ([e].length + ([] : List Keyword).length + (if ([] : List Keyword).isEmpty then 0 else 1) < 30)) = true)
    (hline : (ap.endLine == pos.line) = true) (hs : starEach [e] X.env = (false, eval e X.env) :: starEach [] X.env) : PEU X cad W (.Call (.Attribute o "extend" ap) [e] [] pos) (wpE Γ (.ext o' e')) :=
  (pe_bm (apos := ap) (cpos := pos) PySem.F.plainAttrs_list PySem.F.slot_list_extend PySem.F.type_list_extend mt_extendR ho (pa_cons he pa_nil hs) hbase hfew hline hs rfl).mono fun σ H Qv ⟨ρ, δ, α, M, Q', X', rs, rm, t, hq, hx⟩ => by
    simp only [wpE] at t
    refine ⟨ρ, δ, α, M, _, _, rs, rm, t, fun x M1 q v H1 α1 n1 r1 m1 => ?_, hx⟩
    obtain ⟨n, xs, rfl, hm, q2⟩ := q.inv
    obtain ⟨a, rfl, hα⟩ := id r1
    obtain ⟨us, h1, h2⟩ := m1.get hα hm
    refine ⟨.inl ⟨rfl, us, SqL.of h1⟩, ρ, δ, α1, M1, _, _, rs.nx n1, m1, q2, fun y M2 q3 u H2 α2 n2 r2 m2 => ?_, fun c d M' x => (hx c d M' x).nx n1⟩
    obtain ⟨n', ys, e1, hm2, q4⟩ := q3.inv
    obtain ⟨nb, zs, rfl, hz, hlt, q5⟩ := q4.inv
    cases e1
    obtain ⟨b, rfl, hβ⟩ := r2
    obtain ⟨vs2, sq, rs2⟩ := m2.get hβ hz
    have hα2 := num_nx n2 hα
    obtain ⟨ws, k1, k2⟩ := m2.get hα2 hm2
    have nw : Nx [] α2 H2 α2 (upd H2 a (.lst (ws ++ vs2))) := Nx.write k1 (List.mem_of_getElem? hα2)
    exact ⟨a, b, ws, vs2, rfl, rfl, k1, sq, by rw [sizeLine_eq, ← k2.length, ← rs2.length]; exact hlt, hq _ _ q5 _ _ _ ((n1.trans n2).trans nw) rfl (m2.write hα2 ⟨_, upd_same, (k2.append rs2).nx nw⟩)⟩
/-- text methods of one argument -/
theorem u_m1 {Γ : Tab} {id : String} {name : Str} {o e : Expr} {o' e' : E} {ap : Pos} {E1 : E} {r : V → List V → Hp → VK → Prop} {J : Mem → D → D → DK → Prop} (slot : Slot "str" name id) (ty : typeOf (.builtin id) = pure (.type "method_descriptor")) (rule : MtR X id r)
    (hw : ∀ δ M Q Xc, wpE Γ E1 δ M Q Xc → wpE Γ o' δ M (fun x M1 => asStr x fun _ => wpE Γ e' δ M1 (fun y M2 => J M2 x y Q) Xc) Xc)
    (hj : ∀ ρ H α M (Q : DK) (Qv : VK) x y v u, RM (gx X cad) ρ H α M → RD (gx X cad) ρ H α x v → RD (gx X cad) ρ H α y u → J M x y Q → (∀ d M', Q d M' → wv (gx X cad) ρ α H Qv d M') → r v [u] H Qv)
    (ho : PEU X cad W o (wpE Γ o')) (he : PEU X cad W e (wpE Γ e')) (hs : starEach [e] X.env = [(false, eval e X.env)]) (hbase : attributeBase o name X.env (eval o X.env) = eval o X.env) (hline : (ap.endLine == pos.line) = true) :
    PEU X cad W (.Call (.Attribute o name ap) [e] [] pos) (wpE Γ E1) :=
  (pe_m1 slot ty rule ho he hs hbase hline).mono fun σ H Qv ⟨ρ, δ, α, M, Q', X', rs, rm, t, hq, hx⟩ => by
    refine ⟨ρ, δ, α, M, _, _, rs, rm, hw _ _ _ _ t, fun x M1 q v H1 α1 n1 r1 m1 => ?_, hx⟩
    obtain ⟨a, rfl, q2⟩ := q.inv
    have ev : v = .str a := r1
    subst ev
    refine ⟨⟨a, rfl⟩, ρ, δ, α1, M1, _, _, rs.nx n1, m1, q2, fun y M2 q3 u H2 α2 n2 r2 m2 => ?_, fun c d M' x => (hx c d M' x).nx n1⟩
    exact hj ρ H2 α2 M2 Q' Qv _ _ _ _ m2 (r1.nx n2) r2 q3 fun d M' z => (hq d M' z).nx (n1.trans n2)
theorem u_join {Γ : Tab} {o e : Expr} {o' e' : E} {ap : Pos} (ho : PEU X cad W o (wpE Γ o')) (he : PEU X cad W e (wpE Γ e')) (hs : starEach [e] X.env = [(false, eval e X.env)]) (hbase : attributeBase o "join" X.env (eval o X.env) = eval o X.env) (hline : (ap.endLine == pos.line) = true) :
    PEU X cad W (.Call (.Attribute o "join" ap) [e] [] pos) (wpE Γ (.join o' e')) :=
  u_m1 (J := fun M x y Q => joinD M x y fun z => Q (.str z) M) PySem.F.slot_str_join PySem.F.type_str_join mt_join (fun δ M Q Xc t => by simpa only [wpE] using t) (fun ρ H α M Q Qv x y v u rm r1 r2 c hq => by
    obtain ⟨a, ys, ss, rfl, e1, e2, hz, q⟩ := c.inv
    cases r1
    obtain ⟨b, vs, rfl, sq, rs⟩ := seq_of rm r2 e1
    have ev := strs_rds rs e2
    subst ev
    exact ⟨a, b, ss, rfl, rfl, sq, hz, hq _ _ q _ H α (Nx.refl ..) rfl rm⟩) ho he hs hbase hline
theorem u_cnt {Γ : Tab} {o e : Expr} {o' e' : E} {ap : Pos} (ho : PEU X cad W o (wpE Γ o')) (he : PEU X cad W e (wpE Γ e')) (hs : starEach [e] X.env = [(false, eval e X.env)]) (hbase : attributeBase o "count" X.env (eval o X.env) = eval o X.env) (hline : (ap.endLine == pos.line) = true) :
    PEU X cad W (.Call (.Attribute o "count" ap) [e] [] pos) (wpE Γ (.cnt o' e')) :=
  u_m1 (J := fun M x y Q => cntD x y fun z => Q (.int z) M) PySem.F.slot_str_count PySem.F.type_str_count mt_count (fun δ M Q Xc t => by simpa only [wpE] using t) (fun ρ H α M Q Qv x y v u rm r1 r2 c hq => by
    obtain ⟨a, b, rfl, rfl, q⟩ := c.inv
    cases r1; cases r2
    exact ⟨a, b, rfl, rfl, hq _ _ q _ H α (Nx.refl ..) rfl rm⟩) ho he hs hbase hline
end
end AA
/-! AA7r: turned about; an empty dict; list.pop(). -/
namespace AA
open PySem PySem.Spec L2
open PyProof.Rows hiding St
section
variable {prog : Program} {w : World} {A : Around} {E : Value → Shared → Prop} {s : Shared}
/-- the bounds of [::-1] -/
theorem back_bounds (n : Nat) : Builtin.Slice.sliceAdjust none none (-1) (n : Int) = ((n : Int) - 1, -1) := by
  unfold Builtin.Slice.sliceAdjust
  first | rfl | (simp; done) | (simp <;> omega)
theorem back_places (n : Nat) : Builtin.Slice.slicePlaces ((n : Int) - 1) (-1) (-1) = n := by
  unfold Builtin.Slice.slicePlaces
  have h1 : ¬ ((-1 : Int) > 0) := by decide
  simp only [h1, if_false]
  rw [show (- -1 : Int) = 1 by decide, Int.ediv_one]
  split <;> omega
theorem fm_same {α β : Type} {f g : α → Option β} : ∀ (l : List α), (∀ x ∈ l, f x = g x) → l.filterMap f = l.filterMap g
  | [], _ => rfl
  | x :: l, h => by
    rw [List.filterMap_cons, List.filterMap_cons, h x List.mem_cons_self, fm_same l fun y hy => h y (List.mem_cons_of_mem _ hy)]
theorem back_pick (xs : Array Value) : ((List.range xs.size).filterMap fun (m : Nat) => xs[(((xs.size : Int) - 1) + (m : Int) * (-1)).toNat]?) = xs.toList.reverse := by
  have e : ((List.range xs.size).filterMap fun (m : Nat) => xs[(((xs.size : Int) - 1) + (m : Int) * (-1)).toNat]?) = ((List.range xs.size).map fun k => xs.size - 1 - k).filterMap (xs[·]?) := by
    rw [List.filterMap_map]
    refine fm_same _ fun m hm => ?_
    have := List.mem_range.mp hm
    show xs[(((xs.size : Int) - 1) + (m : Int) * (-1)).toNat]? = xs[xs.size - 1 - m]?
    congr 1
    omega
  rw [e, PySem.W.krv_range, List.filterMap_reverse, PySem.W.krv_all]
theorem back_applied {sl : Addr} {vs : Value} {n : Nat} {Q : Int × Int × Nat → Shared → Prop} (hs : s.heap.IsSliceOf sl .none .none vs) (ps : IsPart vs (some (-1))) (h : Q ((n : Int) - 1, -1, n) s) :
    wpAny (model prog w) A (Builtin.Slice.sliceApplied (.ref sl) (pure (n : Int))) Q E s := by
  obtain ⟨o2, ho2, hc2, hd2⟩ := id hs
  unfold Builtin.Slice.sliceApplied Builtin.Slice.sliceFields
  refine wpAny_bind (wpAny_bind (wpAny_field ho2 hd2 (x := .none) rfl (wpAny_bind (wpAny_field ho2 hd2 (x := .none) rfl (wpAny_bind (wpAny_field ho2 hd2 (x := vs) rfl (wpAny_pure ?_)))))))
  refine wpAny_bind (HT.slicePart_ ps ?_)
  show wpAny _ _ (if ((-1 : Int) == 0) = true then _ else _) _ _ s
  rw [if_neg (by decide)]
  refine wpAny_bind (HT.slicePart_ .none (wpAny_bind (HT.slicePart_ .none (wpAny_bind (wpAny_pure ?_)))))
  show wpAny _ _ (match Builtin.Slice.sliceAdjust none none (-1) (n : Int) with | (lo, hi) => pure (lo, (-1 : Int), Builtin.Slice.slicePlaces lo hi (-1))) _ _ s
  rw [back_bounds n]
  show wpAny _ _ (pure ((n : Int) - 1, (-1 : Int), Builtin.Slice.slicePlaces ((n : Int) - 1) (-1) (-1))) _ _ s
  rw [back_places]
  exact wpAny_pure h
theorem item_tup_back {t sl : Addr} {items : Array Value} {vs : Value} {Q : Value → Shared → Prop} (ht : IsTup s.heap t items) (hs : s.heap.IsSliceOf sl .none .none vs) (ps : IsPart vs (some (-1)))
    (h : Q (.ref s.heap.objs.size) { s with heap := s.heap.push { cls := .type "tuple", data := .seq items.toList.reverse.toArray } }) (few : items.size ≤ sizeLine) : wpAny (model prog w) A (getItem (.ref t) (.ref sl)) Q E s := by
  have okz : sizeOk (.seq items.toList.reverse.toArray) := by
    show items.toList.reverse.toArray.size ≤ sizeLine
    rw [List.size_toArray, List.length_reverse, Array.length_toList]
    exact few
  obtain ⟨o2, ho2, hc2, hd2⟩ := id hs
  have tyS : s.TypeIs (.ref sl) "slice" := ⟨o2, ho2, hc2⟩
  unfold getItem
  try with_reducible refine wpAny_holding ?_
  first | refine wpAny_bind (wpAny_pure ?_) | skip
  refine wpAny_bind (wpAny_sequenceKey ht.typeIs (by decide) ?_)
  refine wpAny_bind (wpAny_callSpecial?_slot (name := Str.ofString "__getitem__") ht.typeIs PyProof.Rows.slot_tuple_getitem (wpAny_call_entry PyProof.Rows.slot_tuple_getitem ht.typeIs entry_tuple_getitem ?_ (args_tuple_getitem _ _)))
  show wpAny _ _ (Builtin.Tuple.tupleItemsOf (.ref t) >>= _) _ _ s
  refine wpAny_bind (tupleItemsOf_ ht (wpAny_bind (wpAny_typeOf tyS ?_)))
  rw [if_pos (by decide)]
  refine wpAny_bind (back_applied hs ps ?_)
  have no : ¬ ((((items.size : Int) - 1) == 0 && (-1 : Int) == 1 && items.size == items.size) = true) := by simp
  show wpAny _ _ (if (((items.size : Int) - 1) == 0 && (-1 : Int) == 1 && items.size == items.size) = true then _ else _) _ _ s
  rw [if_neg no, back_pick]
  first
    | exact wpAny_bind (m := Builtin.Tuple.tupleExact _) (wpAny_newObj_type (wpAny_pure ⟨_, rfl, wpAny_pure h⟩) okz)
    | exact wpAny_bind (m := Builtin.Tuple.tupleExact _) (wpAny_newObj_type (wpAny_bind (wpAny_pure (wpAny_pure ⟨_, rfl, wpAny_pure h⟩))) okz)
    | exact wpAny_bind (wpAny_bind (m := Builtin.Tuple.tupleExact _) (wpAny_newObj_type (wpAny_pure (wpAny_pure ⟨_, rfl, wpAny_pure h⟩)) okz))
    | exact wpAny_bind (wpAny_bind (m := Builtin.Tuple.tupleExact _) (wpAny_newObj_type (wpAny_pure ⟨_, rfl, wpAny_pure h⟩) okz))
end
section
variable {X : Cx} {cad : Cad} {W : WX} {pos : Pos}
/-- t[::-1] of a tuple -/
noncomputable def tRevT (K : PySem.W.Frag) (te : TE) : TE := fun σ H Q => te σ H fun x H1 => ∃ a xs, x = .ref a ∧ SqT K H1 a xs ∧ ∀ p, H1 p = none → Q (.ref p) (upd H1 p (.tup xs.reverse))
theorem pe_revT {e : Expr} {te : TE} {k : Nat} {p1 p2 p3 : Pos} (he : PE X e te) : PE X (.Subscript e (.Slice none none (some (.UnaryOp .USub (.Constant (.int 1) k p1) p2)) p3) pos) (tRevT X.K te) := by
  refine ⟨fun pins s σ H Q I h => Subscript_ (thn (he.run pins s σ H _ I h) fun v s1 ⟨x, H1, I1, r1, a, xs, ex, hx, q⟩ => ?_)⟩
  subst ex
  cases r1
  have step : PO X (some (.UnaryOp .USub (.Constant (.int 1) k p1) p2)) (tPart (tUn (rU fun i => .int (-i)) (tC (.int 1)))) := po_some (pe_un un_neg pe_int)
  refine wpAny_Slice (thn (po_none.run pins s1 σ H1 (fun o H2 => o = none ∧ H2 = H1) I1 ⟨rfl, rfl⟩) fun u1 s2 ⟨o1, H2, I2, g1, e1, f1⟩ => ?_)
  subst e1 f1
  refine thn (po_none.run pins s2 σ H2 (fun o H3 => o = none ∧ H3 = H2) I2 ⟨rfl, rfl⟩) fun u2 s3 ⟨o2, H3, I3, g2, e2, f2⟩ => ?_
  subst e2 f2
  refine thn (step.run pins s3 σ H3 (fun o H4 => o = some (-1) ∧ H4 = H3) I3 ⟨1, rfl, -1, rfl, rfl, rfl⟩) fun u3 s4 ⟨o3, H4, I4, g3, e3, f3⟩ => ?_
  subst e3 f3
  cases g1
  cases g2
  have I5 : Inv X pins σ H4 { s4 with heap := s4.heap.push { cls := .type "slice", data := .fields #[.none, .none, u3] } } := I4.kept (t' := s4.toks) fun b ob q => Heap.get?_push_of_some _ q
  obtain ⟨its, r, ht, hz⟩ := I5.tuple hx
  show wpAny (model X.prog X.w) X.A (subscriptTail e (.Slice none none (some (.UnaryOp .USub (.Constant (.int 1) k p1) p2)) p3) (.ref a) (.ref s4.heap.objs.size)) (EP X pins σ Q) X.xe { s4 with heap := s4.heap.push { cls := .type "slice", data := .fields #[.none, .none, u3] } }
  refine tail_any (ops := [.ref a, .ref s4.heap.objs.size]) ht.typeIs PyProof.Rows.slot_tuple_getitem.lookup ?_ (by with_unfolding_all rfl)
  have hlen := r.length
  refine item_tup_back ht (Heap.IsSliceOf.new _ .none .none u3) g3 ?_ (by rw [List.size_toArray]; omega)
  refine ⟨.ref _, _, I5.laid (t' := s4.toks) (o := .tup xs.reverse) (fun b ob q => Heap.get?_push_of_some _ q) (Nat.le_refl _) ?_, rfl, q _ (I5.hok.fresh (Nat.le_refl _))⟩
  exact ⟨by rw [List.length_reverse]; exact hz, _, r.reverse, IsTup.new _ _⟩
theorem RDs.reverse {G : Gm} {ρ α : List Addr} {H : Hp} : ∀ {ds : List D} {vs : List V}, RDs G ρ H α ds vs → RDs G ρ H α ds.reverse vs.reverse
  | [], vs, h => by rw [show vs = [] from h]; exact RDs.nil
  | d :: ds, vs, h => by
    obtain ⟨v, vs', rfl, r, rs⟩ := h
    rw [List.reverse_cons, List.reverse_cons]
    exact (RDs.reverse rs).append (RDs.cons r .nil)
theorem u_rev {Γ : Tab} {a : Expr} {a' : E} {k : Nat} {p1 p2 p3 : Pos} (ha : PEU X cad W a (wpE Γ a')) : PEU X cad W (.Subscript a (.Slice none none (some (.UnaryOp .USub (.Constant (.int 1) k p1) p2)) p3) pos) (wpE Γ (.rev a')) :=
  (pe_revT (pos := pos) ha).mono fun σ H Qv ⟨ρ, δ, α, M, Q', X', rs, rm, t, hq, hx⟩ => by
    simp only [wpE] at t
    refine ⟨ρ, δ, α, M, _, _, rs, rm, t, fun x M1 q v H1 α1 n1 r1 m1 => ?_, hx⟩
    unfold revD at q
    split at q <;> try contradiction
    rename_i xs
    obtain ⟨b, vs, rfl, t1, rs1⟩ := r1
    exact ⟨b, vs, rfl, t1.sqt, fun p hp => new_tup m1 rs1.reverse q (fun d M' z => (hq d M' z).nx n1) p hp⟩
theorem u_dic0 {Γ : Tab} : PEU X cad W (.Dict [] [] pos) (wpE Γ .dic0) :=
  (pe_dnewK (pos := pos)).mono fun σ H Qv ⟨ρ, δ, α, M, Q', X', rs, rm, t, hq, hx⟩ => by
    simp only [wpE] at t
    intro p hp
    have np : p ∉ α := fun z => by obtain ⟨o, e⟩ := rm.mem z; rw [hp] at e; cases e
    exact hq _ _ t _ _ α (Nx.new hp) ⟨p, rfl, np, fun z => rm.rho p z (.inl hp), .inl upd_same⟩ (rm.new hp)
end
end AA
/-! AA7s: list.pop; lists turned about and put together; sorted(set(a list)). -/
namespace AA
open PySem PySem.Spec L2
open PyProof.Rows hiding St

/-! ### set(a list of ints), its table known -/
/-- a set as it is born -/
noncomputable abbrev bornSet (w : World) : Obj := { cls := .type "set", dict := none, data := .set #[] 0 (.fresh 0 0 (!w.params.followText "set-order")) }
section
variable {P : Program} {w : World} {A : Around} {E : Value → Shared → Prop} {s : Shared}
set_option maxHeartbeats 16000000 in
theorem set_of_list {ad : Addr} {its : Array Value} (zs : List Int) {Qs : Value → Shared → Prop} (calm : A.handled = none) (isL : s.heap.IsList ad its) (are : IntsAre its.toList zs) (few : zs.length + 1 < scanBound)
    (done : ∀ (hp : Heap) (tks k : Nat), SetR w hp s.heap.objs.size (fun j => decide (j ∈ zs)) k → k ≤ zs.length → (∀ b o, s.heap.get? b = some o → hp.get? b = some o) → Qs (.ref s.heap.objs.size) { s with heap := hp, toks := tks }) :
    wpAny (model P w) A (call (.type "set") [.ref ad]) Qs E s := by
  have sz : its.size = zs.length := (Array.length_toList (xs := its)).symm.trans are.length
  obtain ⟨c, tl, hmro⟩ := show _ from F.called_set.mro
  have hmade := show _ from F.called_set.made
  have hsub := show _ from F.called_set.sub
  refine wpAny_call (codeAny_of_tree ?_)
  change wpAny _ _ (callAny (.type "set") _) _ _ _
  refine (wpAny_pure ⟨Code.quiet_builtin _ (by decide +kernel), (codeAny_builtin F.entry_type_call ?_)⟩)
  rw [(Around.under_plain (weight_type_call_type "set" [.ref ad] []) rfl)]
  have h1 := show _ from F.called_set.notType
  have h2 := show _ from F.called_set.canCreate
  have hct := show _ from F.typeCall_set_1 (.ref ad)
  repeat (any_goals first | assumption | wp_step)
  refine (codeAny_mono (code_set_led1 (E := E) (.ref ad) (Q₁ := fun ob t => ob = .ref s.heap.objs.size ∧ t = { s with heap := s.heap.push (bornSet w) }) ⟨rfl, rfl⟩) fun ra sa ha => ?_)
  match ra, ha with
  | .error e, ha => exact ha
  | .ok .next, ha => exact ha.elim
  | .ok .brk, ha => exact ha.elim
  | .ok .cont, ha => exact ha.elim
  | .ok (.ret ob), ha =>
    obtain ⟨rfl, rfl⟩ := ha
    have born : (s.heap.push (bornSet w)).get? s.heap.objs.size = some (bornSet w) := Heap.get?_push_size _ rfl
    have tyB : Shared.TypeIs { s with heap := s.heap.push (bornSet w) } (.ref s.heap.objs.size) "set" := ⟨_, born, rfl⟩
    have hli := show _ from F.called_set.init.lookup
    have hbi := show _ from F.called_set.init.bind (.ref s.heap.objs.size)
    repeat (any_goals first | assumption | wp_step)
    refine (codeAny_mono (codeAny_call_builtin (R := wants (fun r t => r = .none ∧ ∃ hp tks k, t = { s with heap := hp, toks := tks } ∧ SetR w hp s.heap.objs.size (fun j => decide (j ∈ zs)) k ∧ k ≤ zs.length ∧ (∀ b o, s.heap.get? b = some o → hp.get? b = some o)) E)
      F.called_set.init.plain F.entry_set_init (check_set_init_1 tyB ?_)) fun rb sb hb => ?_)
    · obtain ⟨ol, eol, ecl, nl, edl⟩ := isL
      obtain ⟨c0, d0, dat0, sl0⟩ := ol
      simp only at ecl edl
      subst ecl
      subst edl
      have eol1 : (s.heap.push (bornSet w)).get? ad = some { cls := .type "list", dict := d0, data := .seq its nl, slots := sl0 } := Heap.get?_push_of_some _ eol
      have hsls := show _ from F.sub_list_set
      have hslf := show _ from F.sub_list_frozenset
      have hne : (Value.type "list" == Value.type "dict") = false := by decide
      have isL1 : (s.heap.push (bornSet w)).IsList ad its := ⟨_, eol1, rfl, nl, rfl⟩
      unfold Builtin.«set.__init__» noKeywords Builtin.Frozenset.updateFrom
      generalize eqI : pyIter = PI
      wp_walk
      subst eqI
      refine wpAny_pyIter_list isL1 (wpAny_bind (wpAny_runValue ?_))
      have ltA : ad < s.heap.objs.size := Heap.lt_size eol
      have calm3 : A.in1.in1.in1.handled = none := by simp [calm]
      have szP : (s.heap.push (bornSet w)).objs.size = s.heap.objs.size + 1 := Heap.size_push ..
      have neA : ad ≠ (s.heap.push (bornSet w)).objs.size := by rw [szP]; exact Nat.ne_of_lt (Nat.lt_succ_of_lt ltA)
      have outS : s.heap.objs.size ∉ [(s.heap.push (bornSet w)).objs.size, ad] := by
        rw [szP]
        simp only [List.mem_cons, List.not_mem_nil, or_false, not_or]
        exact ⟨Nat.ne_of_lt (Nat.lt_succ_self _), fun z => Nat.lt_irrefl _ (by rw [← z] at ltA; exact ltA)⟩
      have entI : ∀ (i : Nat) (v : Value), its[i]? = some v → ∃ k t, zs[i]? = some k ∧ v = .int k t := fun i v hv => by
        have lt : i < zs.length := by rw [← sz]; exact (Array.getElem?_eq_some_iff.mp hv).1
        obtain ⟨t, ev⟩ := are.int_at i v (by rw [Array.getElem?_toList]; exact hv)
        exact ⟨zs[i], t, List.getElem?_eq_getElem lt, by rw [ev, List.getD_eq_getElem?_getD, List.getElem?_eq_getElem lt] <;> rfl⟩
      refine set_update_ints ((Walks.list calm3 _ ad neA its).toS) s.heap.objs.size outS zs sz few entI (its.size - 0) 0 _ (by omega) (Nat.zero_le _) ⟨⟨_, Heap.get?_push_size _ rfl, rfl, rfl⟩, isL1.push _⟩ ?_ ?_
      · exact ⟨0, Nat.le_refl 0, setR_new_at (Heap.get?_push_of_some _ born)⟩
      · intro t k moved hk isR
        obtain ⟨hp, g2, d2, tk2, os2⟩ := t
        obtain rfl : g2 = s.gens := moved.gens
        obtain rfl : d2 = s.drawn := moved.drawn
        obtain rfl : os2 = s.os := moved.os
        change wpAny _ _ _ _ _ _
        refine wpAny_pure ?_
        change wpAny _ _ (ret Value.none) _ _ _
        rw [sz] at hk
        refine wpAny_pure ⟨rfl, hp, tk2, k, rfl, isR, hk, fun b o e => ?_⟩
        have lb : b < s.heap.objs.size := Heap.lt_size e
        refine moved.heap b o (fun z => ?_) (Heap.get?_push_of_some _ (Heap.get?_push_of_some _ e))
        rcases List.mem_cons.mp z with z | z
        · exact Nat.lt_irrefl _ (by rw [z] at lb; exact lb)
        · rw [List.mem_singleton.mp z] at lb
          exact Nat.lt_irrefl _ (Nat.lt_trans (Nat.lt_succ_self _) (by rw [szP] at lb; exact lb))
    · match rb, hb with
      | .error e, hb => exact hb
      | .ok .next, hb => exact hb.elim
      | .ok .brk, hb => exact hb.elim
      | .ok .cont, hb => exact hb.elim
      | .ok (.ret r), hb =>
        obtain ⟨rfl, hp, tks, k, rfl, isR, hk, kp⟩ := hb
        repeat (any_goals first | assumption | wp_step)
        exact done _ _ _ isR hk kp
end

/-! ### the rules -/
section
variable {X : Cx} {cad : Cad} {W : WX} {pos : Pos}
/-- l[::-1] of a list -/
noncomputable def tRevL (K : PySem.W.Frag) (te : TE) : TE := fun σ H Q => te σ H fun x H1 => ∃ a xs, x = .ref a ∧ SqL K H1 a xs ∧ ∀ p, H1 p = none → Q (.ref p) (upd H1 p (.lst xs.reverse))
theorem pe_revL {e : Expr} {te : TE} {k : Nat} {p1 p2 p3 : Pos} (he : PE X e te) : PE X (.Subscript e (.Slice none none (some (.UnaryOp .USub (.Constant (.int 1) k p1) p2)) p3) pos) (tRevL X.K te) := by
  refine ⟨fun pins s σ H Q I h => Subscript_ (thn (he.run pins s σ H _ I h) fun v s1 ⟨x, H1, I1, r1, a, xs, ex, hx, q⟩ => ?_)⟩
  subst ex
  cases r1
  have step : PO X (some (.UnaryOp .USub (.Constant (.int 1) k p1) p2)) (tPart (tUn (rU fun i => .int (-i)) (tC (.int 1)))) := po_some (pe_un un_neg pe_int)
  refine wpAny_Slice (thn (po_none.run pins s1 σ H1 (fun o H2 => o = none ∧ H2 = H1) I1 ⟨rfl, rfl⟩) fun u1 s2 ⟨o1, H2, I2, g1, e1, f1⟩ => ?_)
  subst e1 f1
  refine thn (po_none.run pins s2 σ H2 (fun o H3 => o = none ∧ H3 = H2) I2 ⟨rfl, rfl⟩) fun u2 s3 ⟨o2, H3, I3, g2, e2, f2⟩ => ?_
  subst e2 f2
  refine thn (step.run pins s3 σ H3 (fun o H4 => o = some (-1) ∧ H4 = H3) I3 ⟨1, rfl, -1, rfl, rfl, rfl⟩) fun u3 s4 ⟨o3, H4, I4, g3, e3, f3⟩ => ?_
  subst e3 f3
  cases g1
  cases g2
  have I5 : Inv X pins σ H4 { s4 with heap := s4.heap.push { cls := .type "slice", data := .fields #[.none, .none, u3] } } := I4.kept (t' := s4.toks) fun b ob q => Heap.get?_push_of_some _ q
  obtain ⟨its, r, pl, hz⟩ := I5.list hx
  have hlen := r.length
  show wpAny (model X.prog X.w) X.A (subscriptTail e (.Slice none none (some (.UnaryOp .USub (.Constant (.int 1) k p1) p2)) p3) (.ref a) (.ref s4.heap.objs.size)) (EP X pins σ Q) X.xe { s4 with heap := s4.heap.push { cls := .type "slice", data := .fields #[.none, .none, u3] } }
  refine tail_any (ops := [.ref a, .ref s4.heap.objs.size]) pl.isList.typeIs slot_list_getitem.lookup ?_ (by with_unfolding_all rfl)
  refine wpAny_getItem_list_slice pl.isList (Heap.IsSliceOf.new _ .none .none u3) .none .none g3 (by decide) ?_ (by rw [List.size_toArray, ← hlen]; exact hz)
  rw [PySem.W.krv_pick]
  refine ⟨.ref _, _, I5.laid (t' := s4.toks) (o := .lst xs.reverse) (fun b ob q => Heap.get?_push_of_some _ q) (Nat.le_refl _) ?_, rfl, q _ (I5.hok.fresh (Nat.le_refl _))⟩
  exact ⟨by rw [List.length_reverse]; exact hz, _, _, r.reverse, Heap.get?_push_size _ rfl⟩
theorem u_revm {Γ : Tab} {a : Expr} {a' : E} {k : Nat} {p1 p2 p3 : Pos} (ha : PEU X cad W a (wpE Γ a')) : PEU X cad W (.Subscript a (.Slice none none (some (.UnaryOp .USub (.Constant (.int 1) k p1) p2)) p3) pos) (wpE Γ (.revm a')) :=
  (pe_revL (pos := pos) ha).mono fun σ H Qv ⟨ρ, δ, α, M, Q', X', rs, rm, t, hq, hx⟩ => by
    simp only [wpE] at t
    refine ⟨ρ, δ, α, M, _, _, rs, rm, t, fun x M1 q v H1 α1 n1 r1 m1 => ?_, hx⟩
    obtain ⟨xs, e, q2⟩ := q.inv
    obtain ⟨b, vs, rfl, sq, rs1⟩ := lst_of m1 r1 e
    exact ⟨b, vs, rfl, sq, fun p hp => new_num m1 rs1.reverse q2 (fun d M' z => (hq d M' z).nx n1) p hp⟩
/-- sorted(set(a)) -/
theorem u_sset {Γ : Tab} {a : Expr} {a' : E} {p p2 q : Pos} (hc : X.calm = true) (hg : Gl X "sorted") (hm : X.mg "sorted" = none) (hg2 : Gl X "set") (hm2 : X.mg "set" = none) (ha : PEU X cad W a (wpE Γ a'))
    (na : starEach [a] X.env = (false, eval a X.env) :: starEach [] X.env) : PEU X cad W (.Call (.Name "sorted" p) [.Call (.Name "set" p2) [a] [] q] [] pos) (wpE Γ (.sset a')) := by
  refine ⟨fun pins s σ H Qv I ⟨ρ, δ, α, M, Q', X', rs, rm, t, hq, hx⟩ => ?_⟩
  simp only [wpE] at t
  refine Call_ (ld_blt I hg hm boot_sorted ?_)
  refine PyProof.Rows.callWith_builtin1 (PyProof.Rows.args_cons ?_ rfl) rfl rfl
  refine Call_ (ld_blt I hg2 hm2 PyProof.Rows.boot_set ?_)
  refine PyProof.Rows.callWith_type1 (PyProof.Rows.args_cons (thn (ha.run pins s σ H (fun x H1 => ∃ (l : Addr) (is : List Int), x = .ref l ∧ SqL X.K H1 l (is.map V.int) ∧ is.length ≤ 60 ∧ ∀ js : List Int, js.Pairwise (· < ·) → (∀ k : Int, k ∈ js ↔ k ∈ is) → ∀ p, H1 p = none → Qv (.ref p) (upd H1 p (.lst (js.map V.int)))) I
    ⟨ρ, δ, α, M, _, _, rs, rm, t, fun x M1 q v H1 α1 n1 r1 m1 => ?_, hx⟩) fun v s1 ⟨x, H1, I1, r1, q1⟩ => PyProof.Rows.args_nil ?_) na) na rfl
  · obtain ⟨xs, e, q2⟩ := q.inv
    obtain ⟨is, e2, hl, q3⟩ := q2.inv
    obtain ⟨b, vs, rfl, sq, rs1⟩ := lst_of m1 r1 e
    have ev := ints_rds rs1 e2
    subst ev
    exact ⟨b, is, rfl, sq, hl, fun js h1 h2 p hp => new_lst m1 (RDs.of_ints js) (q3 js h1 h2) (fun d M' z => (hq d M' z).nx n1) p hp⟩
  · obtain ⟨l, is, rfl, sq, hl, q2⟩ := q1
    cases r1
    obtain ⟨its, r, pl, hz⟩ := I1.list sq
    refine set_of_list is (I1.ok.hd hc) pl.isList (by simpa using r.ints) (by unfold scanBound; omega) fun h' tk k isR hk kp => PyProof.Rows.args_nil ?_
    have I2 : Inv X pins σ H1 { s1 with heap := h', toks := tk } := I1.kept kp
    refine sorted_set isR (I2.ok.hd hc) (by omega) fun s' p out c ns k2 g o hp hgp hi hs hmem hln => ?_
    have hlen : (ns.map V.int).length ≤ sizeLine := by rw [List.length_map, hln, sizeLine_eq]; omega
    have hn : H1 p = none := I2.hok.fresh hp
    have J : Inv X pins σ (upd H1 p (.lst (ns.map V.int))) { ({ s1 with heap := h', toks := tk } : Shared) with heap := s'.heap, gens := s'.gens, drawn := s'.drawn, toks := s'.toks } :=
      I2.call (ch := []) (Un.laid k2 hp hn) (I2.hok.laid k2 hp ⟨hlen, out.toList, c, vals_of_ints hi, hgp⟩) (by rw [g]; exact I2.bare) (fun _ z => nomatch z)
    have e : s' = { ({ s1 with heap := h', toks := tk } : Shared) with heap := s'.heap, gens := s'.gens, drawn := s'.drawn, toks := s'.toks } := by
      cases s'
      cases s1
      cases o
      rfl
    rw [e]
    exact ⟨.ref p, _, J, rfl, q2 ns hs (fun j => (hmem j).trans decide_eq_true_iff) p hn⟩
/-- list.pop() -/
theorem u_pop {Γ : Tab} {o : Expr} {o' : E} {ap : Pos} (ho : PEU X cad W o (wpE Γ o')) (hbase : attributeBase o "pop" X.env (eval o X.env) = eval o X.env) (hline : (ap.endLine == pos.line) = true) : PEU X cad W (.Call (.Attribute o "pop" ap) [] [] pos) (wpE Γ (.pop o')) :=
  (pe_bm0 (apos := ap) (cpos := pos) PySem.F.plainAttrs_list PySem.F.slot_list_pop PySem.F.type_list_pop mt_pop ho hbase hline).mono fun σ H Qv ⟨ρ, δ, α, M, Q', X', rs, rm, t, hq, hx⟩ => by
    simp only [wpE] at t
    refine ⟨ρ, δ, α, M, _, _, rs, rm, t, fun x M1 q v H1 α1 n1 r1 m1 => ?_, hx⟩
    obtain ⟨n, xs, rfl, hm, q2⟩ := q.inv
    obtain ⟨y, hy, q3⟩ := q2.inv
    obtain ⟨a, rfl, hα⟩ := id r1
    obtain ⟨us, h1, h2⟩ := m1.get hα hm
    have hy2 : xs[xs.length - 1]? = some y := by rw [← List.getLast?_eq_getElem?]; exact hy
    obtain ⟨u, hu, ru⟩ := h2.get hy2
    have nw : Nx [] α1 H1 α1 (upd H1 a (.lst us.dropLast)) := Nx.write h1 (List.mem_of_getElem? hα)
    refine ⟨.inl ⟨rfl, us, SqL.of h1⟩, a, us, u, rfl, rfl, h1, by rw [← h2.length]; exact hu, ?_⟩
    refine hq _ _ q3 _ _ _ (n1.trans nw) (ru.nx nw) (m1.write hα ⟨_, upd_same, ?_⟩)
    have cut : RDs (gx X cad) ρ H1 α1 (xs.take (us.length - 1)) (us.take (us.length - 1)) := h2.take _
    rw [List.dropLast_eq_take, List.dropLast_eq_take, h2.length]
    rw [List.dropLast_eq_take] at nw
    exact cut.nx nw
theorem RDs.erase {G : Gm} {H : Hp} {ρ α : List Addr} : ∀ {ds : List D} {vs : List V} (n : Nat), RDs G ρ H α ds vs → RDs G ρ H α (ds.eraseIdx n) (vs.eraseIdx n)
  | [], vs, n, h => by rw [show vs = [] from h]; simp; exact RDs.nil
  | d :: ds, vs, 0, h => by
    obtain ⟨v, vs', rfl, r, rs⟩ := h
    simpa using rs
  | d :: ds, vs, n + 1, h => by
    obtain ⟨v, vs', rfl, r, rs⟩ := h
    simpa using RDs.cons r (RDs.erase n rs)
/-- list.pop(i) -/
theorem u_popi {Γ : Tab} {o e : Expr} {o' e' : E} {ap : Pos} (ho : PEU X cad W o (wpE Γ o')) (he : PEU X cad W e (wpE Γ e')) (hbase : attributeBase o "pop" X.env (eval o X.env) = eval o X.env)
    (hfew : ((backTo pos (starEach [e] X.env)).all (fun x => !x.1) && (backToKw pos (keywordEach [] X.env)).all (fun x => x.1.isSome)
      && decide ([e].length + ([] : List Keyword).length + (if ([] : List Keyword).isEmpty then 0 else 1) < 30)) = true)
    (hline : (ap.endLine == pos.line) = true) (hs : starEach [e] X.env = (false, eval e X.env) :: starEach [] X.env) : PEU X cad W (.Call (.Attribute o "pop" ap) [e] [] pos) (wpE Γ (.popi o' e')) :=
  (pe_bm (apos := ap) (cpos := pos) PySem.F.plainAttrs_list PySem.F.slot_list_pop PySem.F.type_list_pop mt_popAt ho (pa_cons he pa_nil hs) hbase hfew hline hs rfl).mono fun σ H Qv ⟨ρ, δ, α, M, Q', X', rs, rm, t, hq, hx⟩ => by
    simp only [wpE] at t
    refine ⟨ρ, δ, α, M, _, _, rs, rm, t, fun x M1 q v H1 α1 n1 r1 m1 => ?_, hx⟩
    obtain ⟨n, xs, rfl, hm, q2⟩ := q.inv
    obtain ⟨a, rfl, hα⟩ := id r1
    obtain ⟨us, h1, h2⟩ := m1.get hα hm
    refine ⟨.inl ⟨rfl, us, SqL.of h1⟩, ρ, δ, α1, M1, _, _, rs.nx n1, m1, q2, fun z M2 q3 u H2 α2 n2 r2 m2 => ?_, fun c d M' x => (hx c d M' x).nx n1⟩
    obtain ⟨n', ys, e1, hm2, q4⟩ := q3.inv
    cases e1
    obtain ⟨j, rfl, j0, j1, jz, q5⟩ := q4.inv
    cases r2
    have hα2 := num_nx n2 hα
    obtain ⟨ws, k1, k2⟩ := m2.get hα2 hm2
    have jl : j.toNat < ys.length := by omega
    obtain ⟨w, hw, rw'⟩ := k2.get (List.getElem?_eq_getElem jl)
    have nw : Nx [] α2 H2 α2 (upd H2 a (.lst (ws.eraseIdx j.toNat))) := Nx.write k1 (List.mem_of_getElem? hα2)
    refine ⟨a, ws, j, j.toNat, w, rfl, rfl, k1, by omega, by omega, ?_, hw, ?_⟩
    · have : ws.length = ys.length := k2.length.symm
      unfold seqIndex?
      rw [this]
      first | (simp only [j0, j1, if_true, and_self, ge_iff_le]; done) | (simp; omega)
    · exact hq _ _ (q5 _ (List.getElem?_eq_getElem jl)) _ _ _ ((n1.trans n2).trans nw) (rw'.nx nw) (m2.write hα2 ⟨_, upd_same, (k2.erase _).nx nw⟩)
/-- list + list -/
theorem u_catl {Γ : Tab} {m : Bool} {a b : Expr} {a' b' : E} (ha : PEU X cad W a (wpE Γ a')) (hb : PEU X cad W b (wpE Γ b')) : PEU X cad W (.BinOp a .Add b pos) (wpE Γ (.catl m a' b')) := by
  have q := (pe_op (pos := pos) op_cat ha hb).mono (tOp_up (G := gx X cad) (W := W) (R := fun x y M Q => numL M x fun _ xs => numL M y fun _ ys => xs.length + ys.length ≤ 16777216 ∧ if m = true then Q (.ref M.length) (M ++ [.lst (xs ++ ys)]) else Q (.lst (xs ++ ys)) M)
    fun ρ H α M Q Qv x y v u rm r1 r2 b hq => by
      obtain ⟨i, xs, rfl, h1, b1⟩ := b.inv
      obtain ⟨j, ys, rfl, h2, hl, b2⟩ := b1.inv
      obtain ⟨l, rfl, hα⟩ := id r1
      obtain ⟨l2, rfl, hα2⟩ := id r2
      obtain ⟨us, k1, g1⟩ := rm.get hα h1
      obtain ⟨ws, k2, g2⟩ := rm.get hα2 h2
      refine ⟨l, l2, us, ws, rfl, rfl, k1, k2, by rw [sizeLine_eq, ← g1.length, ← g2.length]; exact hl, fun p hp => ?_⟩
      cases m with
      | true => exact new_num rm (g1.append g2) (by simpa using b2) hq p hp
      | false => exact new_lst rm (g1.append g2) (by simpa using b2) hq p hp)
  simpa only [wpE] using q
/-- list * int -/
theorem u_lrep {Γ : Tab} {a b : Expr} {a' b' : E} (ha : PEU X cad W a (wpE Γ a')) (hb : PEU X cad W b (wpE Γ b')) : PEU X cad W (.BinOp a .Mult b pos) (wpE Γ (.lrep a' b')) := by
  have q := (pe_op (pos := pos) op_rep ha hb).mono (tOp_up (G := gx X cad) (W := W) (R := fun x y M Q => numL M x fun _ xs => asInt y fun k => 0 ≤ k ∧ k ≤ 1000000 ∧ xs.length * k.toNat ≤ 16777216 ∧ Q (.ref M.length) (M ++ [.lst (List.replicate k.toNat xs).flatten]))
    fun ρ H α M Q Qv x y v u rm r1 r2 b hq => by
      obtain ⟨i, xs, rfl, h1, b1⟩ := b.inv
      obtain ⟨k, rfl, k0, k1, hl, b2⟩ := b1.inv
      obtain ⟨l, rfl, hα⟩ := id r1
      obtain rfl : u = V.int k := r2
      obtain ⟨us, g0, g1⟩ := rm.get hα h1
      refine ⟨l, k, us, rfl, rfl, g0, by omega, by omega, by rw [sizeLine_eq, ← g1.length]; exact hl, fun p hp => ?_⟩
      exact new_num rm (rep_rds g1 k.toNat) (by simpa using b2) hq p hp)
  simpa only [wpE] using q
end
end AA
/-! AA7t: len(set(texts)), nothing twice. -/
namespace AA
open PySem PySem.Spec L2
open PyProof.Rows hiding St

/-- a set as it is born, its table any -/
noncomputable abbrev bornAny (led : Bool) : Obj := { cls := .type "set", dict := none, data := .set #[] 0 (.fresh 0 0 led) }
section
variable {prog : Program} {w : World} {A : Around} {R : Result → Shared → Prop} {I : Addr} {fp wr : List Addr} {G : Array GenState → Array GenState → Prop} {n : Nat} {P : Nat → Value → Prop} {St : Nat → Shared → Prop}
theorem texts_go (W : WalksS prog w A.in1 I fp wr G n P St) (S : Addr) (out : S ∉ fp) (zs : List Str) (sz : zs.length = n) (few : n + 1 < scanBound) (nd : zs.Nodup)
    (ent : ∀ i v, P i v → ∃ k t, zs[i]? = some k ∧ v = .str k t) :
    ∀ (k i : Nat) (s : Shared), n - i = k → i ≤ n → St i s → s.heap.SetOf (PySem.strKind prog w) S (fun z => decide (z ∈ zs.take i)) i →
      (∀ t, Moved (S :: wr) G s t → t.heap.SetOf (PySem.strKind prog w) S (fun z => decide (z ∈ zs.take n)) n → R (.ok (.ret .none)) t) →
      codeAny (model prog w) A (.builtin "set.update.loop" ⟨[.ref S, .ref I], []⟩) R s := by
  have outW : S ∉ wr := fun h => out (W.sub _ h)
  have more : ∀ b ∈ wr, b ∈ S :: wr := fun b hb => List.mem_cons_of_mem _ hb
  intro k
  induction k with
  | zero =>
    intro i s hk hi at_ isS done
    obtain rfl : i = n := by omega
    refine codeAny_builtin PyProof.Rows.F.entry_set_update_loop ?_
    rw [Around.under_plainId PyProof.Rows.F.plain_set_update_loop _]
    change wpAny _ A.in1 (pyNext (.ref I) >>= _) _ _ s
    refine wpAny_bind (W.done s _ _ at_ fun t mv => ?_)
    change wpAny _ A.in1 (ret Value.none) _ _ t
    obtain ⟨o, es, ep, tb, ho, rest⟩ := isS
    exact wpAny_pure (done t (mv.mono more) ⟨o, es, ep, tb, mv.heap S _ outW ho, rest⟩)
  | succ k ih =>
    intro i s hk hi at_ isS done
    have lt : i < n := by omega
    refine codeAny_builtin PyProof.Rows.F.entry_set_update_loop ?_
    rw [Around.under_plainId PyProof.Rows.F.plain_set_update_loop _]
    change wpAny _ A.in1 (pyNext (.ref I) >>= _) _ _ s
    refine wpAny_bind (W.item i s _ _ lt at_ fun v t hv at2 mv => ?_)
    obtain ⟨z, tk, ez, rfl⟩ := ent i v hv
    have lz : i < zs.length := by omega
    have new : decide (z ∈ zs.take i) = false := by
      rw [decide_eq_false_iff_not]
      intro m
      obtain ⟨j, hj, ej⟩ := List.mem_take_iff_getElem.mp m
      have e2 : zs[i] = z := by rw [List.getElem?_eq_getElem lz] at ez; exact Option.some.inj ez
      exact List.pairwise_iff_getElem.mp nd j i (by omega) lz (by omega) (by rw [ej, e2])
    have isS2 : t.heap.SetOf (PySem.strKind prog w) S (fun z => decide (z ∈ zs.take i)) i := by
      obtain ⟨o, es, ep, tb, ho, rest⟩ := isS
      exact ⟨o, es, ep, tb, mv.heap S _ outW ho, rest⟩
    change wpAny _ A.in1 (holding [Value.str z tk] (setAdd S (.str z tk)) >>= _) _ _ t
    refine wpAny_bind (wpAny_holding ?_)
    unfold setAdd
    refine wpAny_holding (wpAny_bind ((PySem.strKind prog w).pyHash (k := z) (strKind_is _ _ _ _) ?_))
    refine wpAny_setAddHashed_of (knd := PySem.strKind prog w) (s := { t with toks := t.toks + 1 }) (strKind_is _ _ _ _) rfl isS2 (by omega) fun h2 but isS3 => ?_
    rw [new] at isS3
    have isS4 : h2.SetOf (PySem.strKind prog w) S (fun z => decide (z ∈ zs.take (i + 1))) (i + 1) := by
      refine SetOf_congr isS3 (fun y => ?_) rfl
      rw [List.take_succ, ez]
      simp
    refine wpAny_pure ⟨plainId_quiet PyProof.Rows.F.plain_set_update_loop _, ih (i + 1) _ (by omega) lt (W.frame _ t _ _ at2 (Nat.le_succ _) fun b hb o e => ?_) isS4 fun t2 mv2 isS5 => ?_⟩
    · rw [but.2 b fun h : b = S => out (by rw [← h]; exact hb)]
      exact e
    · refine done t2 (Moved.trans W.gtrans ((mv.mono more).then_heap (Nat.le_succ _) fun b o hb e => ?_) mv2) isS5
      rw [but.2 b fun h : b = S => hb (by rw [h]; exact List.mem_cons_self)]
      exact e
end
section
variable {P : Program} {w : World} {A : Around} {E : Value → Shared → Prop} {s : Shared}
set_option maxHeartbeats 16000000 in
theorem set_of_texts {ad : Addr} {its : Array Value} (zs : List Str) {Qs : Value → Shared → Prop} (calm : A.handled = none) (isL : s.heap.IsList ad its ∨ s.heap.IsTuple ad its) (are : StrsAre its.toList zs) (few : zs.length + 1 < scanBound) (nd : zs.Nodup)
    (done : ∀ (hp : Heap) (tks : Nat), hp.SetOf (PySem.strKind P w) s.heap.objs.size (fun z => decide (z ∈ zs)) zs.length → (∀ b o, s.heap.get? b = some o → hp.get? b = some o) → Qs (.ref s.heap.objs.size) { s with heap := hp, toks := tks }) :
    wpAny (model P w) A (call (.type "set") [.ref ad]) Qs E s := by
  have sz : its.size = zs.length := (Array.length_toList (xs := its)).symm.trans (StrsAre.len_eq are)
  obtain ⟨c, tl, hmro⟩ := show _ from PySem.F.called_set.mro
  have hmade := show _ from PySem.F.called_set.made
  have hsub := show _ from PySem.F.called_set.sub
  refine wpAny_call (codeAny_of_tree ?_)
  change wpAny _ _ (callAny (.type "set") _) _ _ _
  refine (wpAny_pure ⟨Code.quiet_builtin _ (by decide +kernel), (codeAny_builtin PySem.F.entry_type_call ?_)⟩)
  rw [(Around.under_plain (weight_type_call_type "set" [.ref ad] []) rfl)]
  have h1 := show _ from PySem.F.called_set.notType
  have h2 := show _ from PySem.F.called_set.canCreate
  have hct := show _ from PySem.F.typeCall_set_1 (.ref ad)
  repeat (any_goals first | assumption | wp_step)
  refine (codeAny_mono (code_set_new_1 (E := E) (.ref ad) (Q₁ := fun ob t => ∃ led, ob = .ref s.heap.objs.size ∧ t = { s with heap := s.heap.push (bornAny led) }) fun led => ⟨led, rfl, rfl⟩) fun ra sa ha => ?_)
  match ra, ha with
  | .error e, ha => exact ha
  | .ok .next, ha => exact ha.elim
  | .ok .brk, ha => exact ha.elim
  | .ok .cont, ha => exact ha.elim
  | .ok (.ret ob), ha =>
    obtain ⟨led, rfl, rfl⟩ := ha
    have born : (s.heap.push (bornAny led)).get? s.heap.objs.size = some (bornAny led) := Heap.get?_push_size _ rfl
    have tyB : Shared.TypeIs { s with heap := s.heap.push (bornAny led) } (.ref s.heap.objs.size) "set" := ⟨_, born, rfl⟩
    have hli := show _ from PySem.F.called_set.init.lookup
    have hbi := show _ from PySem.F.called_set.init.bind (.ref s.heap.objs.size)
    repeat (any_goals first | assumption | wp_step)
    refine (codeAny_mono (codeAny_call_builtin (R := wants (fun r t => r = .none ∧ ∃ hp tks, t = { s with heap := hp, toks := tks } ∧ hp.SetOf (PySem.strKind P w) s.heap.objs.size (fun z => decide (z ∈ zs)) zs.length ∧ (∀ b o, s.heap.get? b = some o → hp.get? b = some o)) E)
      PySem.F.called_set.init.plain PySem.F.entry_set_init (check_set_init_1 tyB ?_)) fun rb sb hb => ?_)
    · have szP : (s.heap.push (bornAny led)).objs.size = s.heap.objs.size + 1 := Heap.size_push ..
      have calm3 : A.in1.in1.in1.handled = none := by simp [calm]
      have entS : ∀ (i : Nat) (v : Value), its[i]? = some v → ∃ k t, zs[i]? = some k ∧ v = .str k t := fun i v hv => by
        have lt : i < zs.length := by rw [← sz]; exact (Array.getElem?_eq_some_iff.mp hv).1
        obtain ⟨t, ev⟩ := SS.strs_at are i v (by rw [Array.getElem?_toList]; exact hv)
        exact ⟨zs[i], t, List.getElem?_eq_getElem lt, by rw [ev, List.getD_eq_getElem?_getD, List.getElem?_eq_getElem lt] <;> rfl⟩
      rcases isL with isL | isL
      all_goals
        obtain ⟨ol, eol, ecl, nl, edl⟩ := isL
        obtain ⟨c0, d0, dat0, sl0⟩ := ol
        simp only at ecl edl
        subst ecl
        subst edl
        have ltA : ad < s.heap.objs.size := Heap.lt_size eol
        have neA : ad ≠ (s.heap.push (bornAny led)).objs.size := by rw [szP]; exact Nat.ne_of_lt (Nat.lt_succ_of_lt ltA)
        have outS : s.heap.objs.size ∉ [(s.heap.push (bornAny led)).objs.size, ad] := by
          rw [szP]
          simp only [List.mem_cons, List.not_mem_nil, or_false, not_or]
          exact ⟨Nat.ne_of_lt (Nat.lt_succ_self _), fun z => Nat.lt_irrefl _ (by rw [← z] at ltA; exact ltA)⟩
        have eol1 := Heap.get?_push_of_some (bornAny led) eol
      · have hsls := show _ from PySem.F.sub_list_set
        have hslf := show _ from PySem.F.sub_list_frozenset
        have hne : (Value.type "list" == Value.type "dict") = false := by decide
        have isL1 : (s.heap.push (bornAny led)).IsList ad its := ⟨_, eol1, rfl, nl, rfl⟩
        unfold Builtin.«set.__init__» noKeywords Builtin.Frozenset.updateFrom
        generalize eqI : pyIter = PI
        wp_walk
        subst eqI
        refine wpAny_pyIter_list isL1 (wpAny_bind (wpAny_runValue ?_))
        refine texts_go ((Walks.list calm3 _ ad neA its).toS) s.heap.objs.size outS zs sz.symm (by omega) nd entS (its.size - 0) 0 _ (by omega) (Nat.zero_le _) ⟨⟨_, Heap.get?_push_size _ rfl, rfl, rfl⟩, isL1.push _⟩ ?_ ?_
        · exact SetOf_congr ((setObjOf_fresh (knd := PySem.strKind P w) led).setOf (Heap.get?_push_of_some _ born) (by unfold scanBound; omega)) (fun y => by simp) rfl
        · intro t moved isS
          obtain ⟨hp, g2, d2, tk2, os2⟩ := t
          obtain rfl : g2 = s.gens := moved.gens
          obtain rfl : d2 = s.drawn := moved.drawn
          obtain rfl : os2 = s.os := moved.os
          change wpAny _ _ _ _ _ _
          refine wpAny_pure ?_
          change wpAny _ _ (ret Value.none) _ _ _
          rw [sz, List.take_length] at isS
          refine wpAny_pure ⟨rfl, hp, tk2, rfl, isS, fun b o e => ?_⟩
          have lb : b < s.heap.objs.size := Heap.lt_size e
          refine moved.heap b o (fun z => ?_) (Heap.get?_push_of_some _ (Heap.get?_push_of_some _ e))
          rcases List.mem_cons.mp z with z | z
          · exact Nat.lt_irrefl _ (by rw [z] at lb; exact lb)
          · rw [List.mem_singleton.mp z] at lb
            exact Nat.lt_irrefl _ (Nat.lt_trans (Nat.lt_succ_self _) (by rw [szP] at lb; exact lb))
      · have hsls := show _ from PySem.F.sub_tuple_set
        have hslf := show _ from PySem.F.sub_tuple_frozenset
        have hne : (Value.type "tuple" == Value.type "dict") = false := by decide
        have isL1 : (s.heap.push (bornAny led)).IsTuple ad its := ⟨_, eol1, rfl, nl, rfl⟩
        unfold Builtin.«set.__init__» noKeywords Builtin.Frozenset.updateFrom
        generalize eqI : pyIter = PI
        wp_walk
        subst eqI
        refine wpAny_pyIter_tuple isL1 (wpAny_bind (wpAny_runValue ?_))
        refine texts_go ((Walks.tuple calm3 _ ad neA its).toS) s.heap.objs.size outS zs sz.symm (by omega) nd entS (its.size - 0) 0 _ (by omega) (Nat.zero_le _) ⟨⟨_, Heap.get?_push_size _ rfl, rfl, rfl⟩, isL1.push _⟩ ?_ ?_
        · exact SetOf_congr ((setObjOf_fresh (knd := PySem.strKind P w) led).setOf (Heap.get?_push_of_some _ born) (by unfold scanBound; omega)) (fun y => by simp) rfl
        · intro t moved isS
          obtain ⟨hp, g2, d2, tk2, os2⟩ := t
          obtain rfl : g2 = s.gens := moved.gens
          obtain rfl : d2 = s.drawn := moved.drawn
          obtain rfl : os2 = s.os := moved.os
          change wpAny _ _ _ _ _ _
          refine wpAny_pure ?_
          change wpAny _ _ (ret Value.none) _ _ _
          rw [sz, List.take_length] at isS
          refine wpAny_pure ⟨rfl, hp, tk2, rfl, isS, fun b o e => ?_⟩
          have lb : b < s.heap.objs.size := Heap.lt_size e
          refine moved.heap b o (fun z => ?_) (Heap.get?_push_of_some _ (Heap.get?_push_of_some _ e))
          rcases List.mem_cons.mp z with z | z
          · exact Nat.lt_irrefl _ (by rw [z] at lb; exact lb)
          · rw [List.mem_singleton.mp z] at lb
            exact Nat.lt_irrefl _ (Nat.lt_trans (Nat.lt_succ_self _) (by rw [szP] at lb; exact lb))
    · match rb, hb with
      | .error e, hb => exact hb
      | .ok .next, hb => exact hb.elim
      | .ok .brk, hb => exact hb.elim
      | .ok .cont, hb => exact hb.elim
      | .ok (.ret r), hb =>
        obtain ⟨rfl, hp, tks, rfl, isS, kp⟩ := hb
        repeat (any_goals first | assumption | wp_step)
        exact done _ _ isS kp
end
section
variable {X : Cx} {cad : Cad} {W : WX} {pos : Pos}
theorem strs_vals : ∀ {ns : List Str} {us : List Value}, Vals (ns.map V.str) us → StrsAre us ns
  | [], _, .nil => .nil
  | n :: ns, _, .cons r t => by
    obtain ⟨k, rfl⟩ := r
    exact .cons n k (strs_vals t)
/-- len(set(a)), nothing twice: a list of ints, a list or tuple of texts -/
theorem u_lenset {Γ : Tab} {a : Expr} {a' : E} {p p2 q : Pos} (hc : X.calm = true) (hg : Gl X "len") (hm : X.mg "len" = none) (hg2 : Gl X "set") (hm2 : X.mg "set" = none) (ha : PEU X cad W a (wpE Γ a'))
    (na : starEach [a] X.env = (false, eval a X.env) :: starEach [] X.env) : PEU X cad W (.Call (.Name "len" p) [.Call (.Name "set" p2) [a] [] q] [] pos) (wpE Γ (.lenset a')) := by
  refine ⟨fun pins s σ H Qv I ⟨ρ, δ, α, M, Q', X', rs, rm, t, hq, hx⟩ => ?_⟩
  simp only [wpE] at t
  refine Call_ (ld_blt I hg hm PySem.boot_len ?_)
  refine PyProof.Rows.callWith_builtin1 (PyProof.Rows.args_cons ?_ rfl) rfl rfl
  refine Call_ (ld_blt I hg2 hm2 PyProof.Rows.boot_set ?_)
  refine PyProof.Rows.callWith_type1 (PyProof.Rows.args_cons (thn (ha.run pins s σ H (fun x H1 => (∃ (l : Addr) (is : List Int), x = .ref l ∧ SqL X.K H1 l (is.map V.int) ∧ is.Nodup ∧ is.length ≤ 4000 ∧ Qv (.int (is.length : Nat)) H1) ∨
      (∃ (l : Addr) (is : List Str), x = .ref l ∧ (SqL X.K H1 l (is.map V.str) ∨ SqT X.K H1 l (is.map V.str)) ∧ is.Nodup ∧ is.length ≤ 4000 ∧ Qv (.int (is.length : Nat)) H1)) I
    ⟨ρ, δ, α, M, _, _, rs, rm, t, fun x M1 q v H1 α1 n1 r1 m1 => ?_, hx⟩) fun v s1 ⟨x, H1, I1, r1, q1⟩ => PyProof.Rows.args_nil ?_) na) na rfl
  · rcases q with q | q
    · obtain ⟨xs, e, q2⟩ := q.inv
      obtain ⟨is, e2, hnd, hl, q3⟩ := q2.inv
      obtain ⟨b, vs, rfl, sq, rs1⟩ := lst_of m1 r1 e
      have ev := ints_rds rs1 e2
      subst ev
      exact .inl ⟨b, is, rfl, sq, hnd, hl, hq _ _ q3 _ _ _ n1 rfl m1⟩
    · obtain ⟨xs, e, is, e2, hnd, hl, q3⟩ := q
      obtain ⟨b, vs, rfl, sq, rs1⟩ := seq_of m1 r1 e
      have ev := strs_rds rs1 e2
      subst ev
      exact .inr ⟨b, is, rfl, sq, hnd, hl, hq _ _ q3 _ _ _ n1 rfl m1⟩
  · rcases q1 with ⟨l, is, rfl, sq, hnd, hl, q2⟩ | ⟨l, is, rfl, sq, hnd, hl, q2⟩
    · cases r1
      obtain ⟨its, r, pl, hz⟩ := I1.list sq
      have len : its.toArray.size = is.length := by rw [List.size_toArray, ← r.length, List.length_map]
      refine call_set_list (I1.ok.hd hc) pl.isList (ns := is) (by simpa using r.ints) (by unfold scanBound; omega) fun h' tk isR kp => ?_
      rw [len, RZ.firstMet_nodup hnd is.length (Nat.le_refl _), List.take_length] at isR
      refine PyProof.Rows.args_nil ?_
      obtain ⟨o, es, ep, t, h1, h2, h3, _, _, _, h4, h5⟩ := isR
      have I2 : Inv X pins σ H1 { s1 with heap := h', toks := tk } := I1.kept fun b o e => kp b o (Heap.lt_size e) e
      exact call_len_set h1 h2 h3 h4 (by rw [h5] <;> omega) ⟨.int (is.length : Nat), H1, I2.tok _, ⟨_, by rw [h5]⟩, q2⟩
    · cases r1
      obtain ⟨its, r, pl⟩ : ∃ its, Vals (is.map V.str) its ∧ (s1.heap.IsList l its.toArray ∨ s1.heap.IsTuple l its.toArray) := by
        rcases sq with sq | sq
        · obtain ⟨its, r, pl, hz⟩ := I1.list sq
          exact ⟨its, r, .inl pl.isList⟩
        · obtain ⟨its, r, pl, hz⟩ := I1.tuple sq
          exact ⟨its, r, .inr pl⟩
      refine set_of_texts is (I1.ok.hd hc) pl (by simpa using strs_vals r) (by unfold scanBound; omega) hnd fun h' tk isS kp => ?_
      refine PyProof.Rows.args_nil ?_
      obtain ⟨o, es, ep, t, h1, h2, h3, _, _, _, h4, h5⟩ := isS
      have I2 : Inv X pins σ H1 { s1 with heap := h', toks := tk } := I1.kept fun b o e => kp b o e
      exact call_len_set h1 h2 h3 h4 (by rw [h5] <;> omega) ⟨.int (is.length : Nat), H1, I2.tok _, ⟨_, by rw [h5]⟩, q2⟩
end
end AA
/-! AA7i: instances: attributes, methods, properties, makes; split, tuple(range), isinstance. -/
namespace AA
open PySem PySem.Spec L2
open PyProof.Rows hiding St
section
variable {X : Cx} {cad : Cad} {W : WX} {pos : Pos}
/-- the plain attributes of classes -/
noncomputable def AtsOk (K : PySem.W.Frag) (cad : Cad) (ats : List (Nat × Str)) : Prop := ∀ p ∈ ats, Cls K (cad p.1) ∧ NoAttr K (cad p.1) p.2
theorem u_attr {Γ : Tab} {a : Expr} {a' : E} {x : Str} (hA : AtsOk X.K cad Γ.ats) (ha : PEU X cad W a (wpE Γ a')) (hb : attributeBase a x X.env (eval a X.env) = eval a X.env) : PEU X cad W (.Attribute a x pos) (wpE Γ (.attr a' x)) := by
  refine (pe_fld (pos := pos) ha hb).mono fun σ H Qv ⟨ρ, δ, α, M, Q', X', rs, rm, t, hq, hx⟩ => ?_
  simp only [wpE] at t
  refine ⟨ρ, δ, α, M, _, _, rs, rm, t, fun d M1 q v H1 α1 n1 r1 m1 => ?_, hx⟩
  obtain ⟨n, c, fs, e, rfl, hm, hc, hl, q'⟩ := q.inv
  obtain ⟨b, rfl, hα⟩ := r1
  obtain ⟨dx, ws, h1, h2, h3⟩ := m1.get hα hm
  obtain ⟨c1, c2⟩ := hA _ hc
  rcases look_rel x h2 h3 with ⟨e1, _⟩ | ⟨d', v', e1, e2, r2⟩
  · rw [hl] at e1; cases e1
  · rw [hl] at e1; cases e1
    exact ⟨b, _, dx, ws, v', rfl, h1, c1, c2, e2, hq _ _ q' _ _ _ n1 r2 m1⟩
theorem s_sattr {Γ : Tab} {o e : Expr} {o' e' : E} {x : Str} {p : Pos} (hA : AtsOk X.K cad Γ.ats) (ho : PEU X cad W o (wpE Γ o')) (he : PEU X cad W e (wpE Γ e')) (hs : swapsWith e (some (.Attribute o x p)) pos.line X.env = pure false) : PSU X cad W (.Assign [.Attribute o x p] e pos) (wpS Γ (.sattr o' x e')) :=
  (ps_fld ho he hs).mono fun D σ H ⟨ρ, δ, α, M, E', rs, rm, t, el⟩ => by
    simp only [wpS] at t
    refine ⟨ρ, δ, α, M, _, _, rs, rm, t, fun d M1 q v H1 α1 n1 r1 m1 => ?_, fun c d M' x => el.wx rs x⟩
    refine ⟨ρ, δ, α1, M1, _, _, rs.nx n1, m1, q, fun y M2 q2 u H2 α2 n2 r2 m2 => ?_, fun c d M' x => (el.wx rs x).nx n1⟩
    obtain ⟨n, c, fs, rfl, hm, hc, hl, q3⟩ := q2.inv
    obtain ⟨b, rfl, hα⟩ := r2
    obtain ⟨dx, ws, h1, h2, h3⟩ := m2.get hα hm
    obtain ⟨c1, c2⟩ := hA _ hc
    have nw : Nx [] α2 H2 α2 (upd H2 b (.ins (cad c) dx (putF x v ws))) := Nx.write h1 (List.mem_of_getElem? hα)
    obtain ⟨p1, p2⟩ := putA_rel (x := x) (r1.nx n2) h2 h3
    exact ⟨b, _, dx, ws, rfl, h1, c1, c2, by rw [← len_rel h2]; exact hl, el.nx _ _ q3 _ _ _ ((n1.trans n2).trans nw) (rs.nx ((n1.trans n2).trans nw)) (m2.write hα ⟨dx, _, upd_same, p1, p2.nx nw⟩)⟩
/-! ### methods -/
theorem mform {args : List Expr} {env : Env} (h : (backTo pos (starEach args env)).any (·.1) = false) (hn : args.length < 30) : methodCallForm (args.length + ([] : List Keyword).length) (backTo pos (starEach args env)) (backToKw pos (keywordEach [] env)) = true := by
  unfold methodCallForm
  have e : (backTo pos (starEach args env)).all (!·.1) = true := by
    rw [List.all_eq_true]
    intro x hx
    have := List.any_eq_false.mp h x hx
    simpa using this
  rw [e]
  simp [keywordEach, backToKw]
  exact hn
theorem mcall_of {o : Expr} {m : Str} {ap : Pos} {args : List Expr} {s : Shared} {Q : Value → Shared → Prop} (hb : attributeBase o m X.env (eval o X.env) = eval o X.env) (hf : methodCallForm (args.length + ([] : List Keyword).length) (backTo pos (starEach args X.env)) (backToKw pos (keywordEach [] X.env)) = true) (hl : (ap.endLine == pos.line) = true)
    (h : wpAny (model X.prog X.w) X.A (eval o X.env) (fun ov s₁ => ∀ pl : Sem Bool, wpAny (model X.prog X.w) X.A (getMethod ov m pl) (fun fx s₂ => wpAny (model X.prog X.w) X.A (callWith pos fx.1 fx.2 (backTo pos (starEach args X.env)) (backToKw pos (keywordEach [] X.env))) Q X.xe s₂) X.xe s₁) X.xe s) :
    wpAny (model X.prog X.w) X.A (eval (.Call (.Attribute o m ap) args [] pos) X.env) Q X.xe s := by
  rw [arm_eval_Call, hb]
  refine wpAny_bind (wpAny_mono h (fun ov s₁ h₁ => ?_) fun _ _ e => e)
  refine wpAny_bind (wpAny_standAt ?_)
  have hpos : methodCallPos true o X.env ap pos = pure pos := by unfold methodCallPos; simp [hl]
  unfold methodCall
  rw [hf]
  refine wpAny_bind (wpAny_holding (wpAny_mono (h₁ _) (fun fx s₂ h₂ => ?_) fun _ _ e => e))
  exact wpAny_bind (wpAny_of_eq hpos h₂)
/-- what stands behind a method's call -/
theorem meth_own {Γ : Tab} {k c : Nat} {m : Str} {f : Fn} {ρ α : List Addr} {H : Hp} {M : Mem} {x : D} {v : V} {P : D → Prop} (hf : Γ.fn[k]? = some f) (how : f.own = some (c, .meth, m)) (rm : RM (gx X cad) ρ H α M) (r : RD (gx X cad) ρ H α x v)
    (q : insD M x fun _ c fs => ownD Γ.fn k .meth c (lookA fs (nameD Γ.fn k) = none ∧ P x)) : ∃ a dx ws, v = .ref a ∧ H a = some (.ins (cad c) dx ws) ∧ ws.lookup m = none ∧ P x := by
  obtain ⟨n, c', fs, rfl, hm1, q1⟩ := insD.inv q
  obtain ⟨f', m', hf', ho', hno, q2⟩ := ownD.inv q1
  rw [nameD_of hf' ho'] at hno
  rw [hf] at hf'
  cases hf'
  rw [how] at ho'
  cases ho'
  obtain ⟨b, rfl, hα⟩ := r
  obtain ⟨dx, ws, h1, h2, h3⟩ := rm.get hα hm1
  refine ⟨b, dx, ws, rfl, h1, ?_, q2⟩
  rcases look_rel m h2 h3 with ⟨_, e⟩ | ⟨d', v', e1, _, _⟩
  · exact e
  · exfalso
    have hno : fs.lookup m = none := hno
    rw [hno] at e1; cases e1
theorem u_mcall0 {Γ : Tab} {k L c : Nat} {m : Str} {f : Fn} {o : Expr} {o' : E} {ap : Pos} (hf : Γ.fn[k]? = some f) (how : f.own = some (c, .meth, m)) (I : FnI X.prog X.w X.K cad X.mg X.base L f) (gd : X.A.guards = some []) (hr : Room L X.A) (tk : Takes X W)
    (ho : PEU X cad W o (wpE Γ o')) (hb : attributeBase o m X.env (eval o X.env) = eval o X.env) (hl : (ap.endLine == pos.line) = true) : PEU X cad W (.Call (.Attribute o m ap) [] [] pos) (wpE Γ (.mcall k o' .nil)) := by
  obtain ⟨fa, fd, F, hat, hbd, _⟩ := I.ex
  obtain ⟨hc, hm⟩ := hat.meth how
  refine ⟨fun pins s σ H Qv I0 ⟨ρ, δ, α, M, Q', X', rs, rm, t, hq, hx⟩ => ?_⟩
  simp only [wpE, wpEs] at t
  refine mcall_of hb (mform rfl (by decide)) hl (thn (ho.run pins s σ H (fun x H1 => ∃ a dx ws, x = .ref a ∧ H1 a = some (.ins (cad c) dx ws) ∧ ws.lookup m = none ∧ lsp ⟨X.K, cad⟩ f [.ref a] H1 Qv (WE W σ)) I0 ⟨ρ, δ, α, M, _, _, rs, rm, t, fun d M1 q v H1 α1 n1 r1 m1 => ?_, hx⟩) fun u s1 ⟨x, H1, I1, rx, a, dx, ws, ex, ea, l, q⟩ => ?_)
  · obtain ⟨a, dx, ws, rfl, h1, h2, q2⟩ := meth_own (P := fun x => callD Γ.fn k [x] M1 Q' X') hf how m1 r1 q
    obtain ⟨f', hf', hl', q3⟩ := callD.inv q2
    rw [hf] at hf'
    cases hf'
    exact ⟨a, dx, ws, rfl, h1, h2, [d], ρ, α1, M1, _, _, RDs.cons r1 RDs.nil, m1, hl', q3, fun d M' z => (hq d M' z).nx n1, fun c d M' x => (hx c d M' x).nx n1⟩
  · subst ex
    obtain rfl : u = Value.ref a := rx
    intro pl
    refine getmeth_ok I1 ea hc hm l ?_
    exact PySem.W.callWith_K0 (first := [.ref a]) I1.kIn hm.kp (run_fnG (us := [.ref a]) F gd hr hbd tk I1 (.cons (show RelV (.ref a) (.ref a) from rfl) .nil) q)
theorem u_mcall {Γ : Tab} {k L c : Nat} {m : Str} {f : Fn} {o e : Expr} {o' : E} {es : List Expr} {es' : Es} {ap : Pos} (hf : Γ.fn[k]? = some f) (how : f.own = some (c, .meth, m)) (I : FnI X.prog X.w X.K cad X.mg X.base L f) (gd : X.A.guards = some []) (hr : Room L X.A) (tk : Takes X W)
    (ho : PEU X cad W o (wpE Γ o')) (ha : PAU X cad W (e :: es) (wpEs Γ es')) (hb : attributeBase o m X.env (eval o X.env) = eval o X.env) (hn : (e :: es).length < 30) (hl : (ap.endLine == pos.line) = true)
    (hst : starEach (e :: es) X.env = (false, eval e X.env) :: starEach es X.env) (hpl : (backTo pos (starEach es X.env)).any (·.1) = false) :
    PEU X cad W (.Call (.Attribute o m ap) (e :: es) [] pos) (wpE Γ (.mcall k o' es')) := by
  obtain ⟨fa, fd, F, hat, hbd, _⟩ := I.ex
  obtain ⟨hc, hm⟩ := hat.meth how
  refine ⟨fun pins s σ H Qv I0 ⟨ρ, δ, α, M, Q', X', rs, rm, t, hq, hx⟩ => ?_⟩
  simp only [wpE] at t
  have hpl2 : (backTo pos (starEach (e :: es) X.env)).any (·.1) = false := by
    rw [hst]
    show (false || (backTo pos (starEach es X.env)).any (·.1)) = false
    rw [hpl]; rfl
  refine mcall_of hb (mform hpl2 hn) hl (thn (ho.run pins s σ H (fun x H1 => ∃ a dx ws, x = .ref a ∧ H1 a = some (.ins (cad c) dx ws) ∧ ws.lookup m = none ∧ upa (gx X cad) W (wpEs Γ es') σ H1 fun vs H2 => lsp ⟨X.K, cad⟩ f (.ref a :: vs) H2 Qv (WE W σ)) I0 ⟨ρ, δ, α, M, _, _, rs, rm, t, fun d M1 q v H1 α1 n1 r1 m1 => ?_, hx⟩) fun u s1 ⟨x, H1, I1, rx, a, dx, ws, ex, ea, l, q⟩ => ?_)
  · obtain ⟨a, dx, ws, rfl, h1, h2, q2⟩ := meth_own (P := fun x => wpEs Γ es' δ M1 (fun ds M2 => callD Γ.fn k (x :: ds) M2 Q' X') X') hf how m1 r1 q
    refine ⟨a, dx, ws, rfl, h1, h2, ρ, δ, α1, M1, _, _, rs.nx n1, m1, q2, fun ds M2 q3 vs H2 α2 n2 r2 m2 => ?_, fun c d M' x => (hx c d M' x).nx n1⟩
    obtain ⟨f', hf', hl', q4⟩ := callD.inv q3
    rw [hf] at hf'
    cases hf'
    exact ⟨d :: ds, ρ, α2, M2, _, _, RDs.cons (r1.nx n2) r2, m2, hl', q4, fun d M' z => (hq d M' z).nx (n1.trans n2), fun c d M' x => (hx c d M' x).nx (n1.trans n2)⟩
  · subst ex
    obtain rfl : u = Value.ref a := rx
    intro pl
    refine getmeth_ok I1 ea hc hm l ?_
    refine PySem.W.callWith_K (first := [.ref a]) (h₀ := X.base) I1.ok.mod.kin hm.kp (thn (ha.run pos pins s1 σ H1 _ I1 q) fun us s2 ⟨vs, H2, I2, r2, q2⟩ => ⟨I2.kIn, ?_⟩) hst hpl
    exact run_fnG (us := .ref a :: us) F gd hr hbd tk I2 (.cons (show RelV (.ref a) (.ref a) from rfl) r2) q2
/-! ### properties -/
theorem u_prop {Γ : Tab} {k L c : Nat} {m : Str} {f : Fn} {a : Expr} {a' : E} (hf : Γ.fn[k]? = some f) (how : f.own = some (c, .prop, m)) (I : FnI X.prog X.w X.K cad X.mg X.base L f) (gd : X.A.guards = some []) (hr : Room L X.A)
    (ha : PEU X cad W a (wpE Γ a')) (hb : attributeBase a m X.env (eval a X.env) = eval a X.env) : PEU X cad W (.Attribute a m pos) (wpE Γ (.prop k a')) := by
  obtain ⟨fa, fd, L', hL, F, hat, hbd, _⟩ := I.ex1 (by unfold slack; rw [how])
  have hr := hr.mono hL
  obtain ⟨hc, pp, hp⟩ := hat.prop how
  refine ⟨fun pins s σ H Qv I0 ⟨ρ, δ, α, M, Q', X', rs, rm, t, hq, hx⟩ => ?_⟩
  simp only [wpE] at t
  refine attr_of hb (thn (ha.run pins s σ H (fun x H1 => ∃ a dx ws, x = .ref a ∧ H1 a = some (.ins (cad c) dx ws) ∧ lsp ⟨X.K, cad⟩ f [.ref a] H1 Qv (fun _ _ _ => False)) I0 ⟨ρ, δ, α, M, _, _, rs, rm, t, fun d M1 q v H1 α1 n1 r1 m1 => ?_, hx⟩) fun u s1 ⟨x, H1, I1, rx, a, dx, ws, ex, ea, q⟩ => ?_)
  · obtain ⟨n, c', fs, rfl, hm1, q1⟩ := insD.inv q
    obtain ⟨f', m', hf', ho', q2⟩ := ownD.inv q1
    rw [hf] at hf'
    cases hf'
    rw [how] at ho'
    cases ho'
    obtain ⟨b, rfl, hα⟩ := id r1
    obtain ⟨dx, ws, h1, h2, h3⟩ := m1.get hα hm1
    obtain ⟨f', hf', hl', q3⟩ := callD.inv q2
    rw [hf] at hf'
    cases hf'
    exact ⟨b, dx, ws, rfl, h1, [.ref n], ρ, α1, M1, _, _, RDs.cons r1 RDs.nil, m1, hl', q3, fun d M' z => (hq d M' z).nx n1, fun c d M' x => x.elim⟩
  · subst ex
    obtain rfl : u = Value.ref a := rx
    obtain ⟨mA, O, _, _, _, _⟩ := ins_get I1.hok ea
    obtain ⟨od, J, _⟩ := O.look
    obtain ⟨rest, hrec⟩ := hp.rec_
    have I2 := I1.tok (s1.toks + 1)
    have hcs : (PySem.W.clsIn X.K (cad c)).isSome = true := by
      obtain ⟨cd, hcd, _⟩ := PySem.W.any_some hc.hd
      rw [hcd]; rfl
    refine PySem.W.get_bind I1.kIn J (PySem.W.plainGet_of (hc.get m)).1 (PySem.W.findObj_data hcs hp.at_ hp.get hp.tak) (PySem.W.plainGet_of (hc.get m)).2 (wpAny_call (PySem.W.prop_get (s := { s1 with toks := s1.toks + 1 }) I1.kIn hrec ?_))
    have b := hbd { s1 with toks := s1.toks + 1 } [.ref a] I2.kIn (by rw [List.append_nil, ← lsp_len q]; rfl)
    rw [List.append_nil] at b
    refine codeAny_mono (F.run X.A.in1 X.stack { s1 with toks := s1.toks + 1 } H1 ⟨[.ref a], []⟩ [.ref a] [.ref a] Qv (fun _ _ _ => False) gd hr.in1 I2.env0.in1 b (.cons (show RelV (.ref a) (.ref a) from rfl) .nil) q) fun r s' hq' => ?_
    cases r with
    | error er =>
      obtain ⟨_, _, _, _, _, _, _, _, _, _, _, _, z⟩ := hq'
      exact z.elim
    | ok fl =>
      cases fl with
      | ret u =>
        obtain ⟨v, H', I3, rv, q3⟩ := I2.after hq'
        show wpAny _ _ (handedOut u) _ _ _
        rw [PySem.W.handedOut_of (handed_of rv)]
        exact wpAny_pure ⟨v, H', I3, rv, q3⟩
      | next => exact False.elim hq'
      | brk => exact False.elim hq'
      | cont => exact False.elim hq'
/-! ### new instances -/
theorem mk_nx {ρ α : List Addr} {H : Hp} {x dx C : Addr} (h1 : H x = none) (h2 : H dx = none) (h3 : dx ≠ x) : Nx ρ α H (α ++ [x]) (upd (upd H dx (.own x)) x (.ins C dx [])) :=
  (Nx.new h2).trans (Nx.num (by rw [upd_ne (Ne.symm h3)]; exact h1))
theorem mk_rm {G : Gm} {ρ α : List Addr} {H : Hp} {M : Mem} {x dx : Addr} {c : Nat} (rm : RM G ρ H α M) (h1 : H x = none) (h2 : H dx = none) (h3 : dx ≠ x) : RM G ρ (upd (upd H dx (.own x)) x (.ins (G.cad c) dx [])) (α ++ [x]) (M ++ [.ins c []]) :=
  (rm.new h2).num (by rw [upd_ne (Ne.symm h3)]; exact h1) ⟨dx, [], upd_same, rfl, RDs.nil⟩
theorem u_new {Γ : Tab} {k L c : Nat} {m : Str} {f : Fn} {es : List Expr} {es' : Es} {p : Pos} (hf : Γ.fn[k]? = some f) (how : f.own = some (c, .init, m)) (I : FnI X.prog X.w X.K cad X.mg X.base L f) (gd : X.A.guards = some []) (hr : Room L X.A) (tk : Takes X W) (hg : Gl X f.name)
    (ha : PAU X cad W es (wpEs Γ es')) (hst : ∀ e r, es = e :: r → starEach (e :: r) X.env = (false, eval e X.env) :: starEach r X.env) (hpl : ∀ e r, es = e :: r → (backTo pos (starEach r X.env)).any (·.1) = false) (hnil : es = [] → es' = .nil) :
    PEU X cad W (.Call (.Name f.name p) es [] pos) (wpE Γ (.new k es')) := by
  obtain ⟨fa, fd, L', hL, F, hat, hbd, _⟩ := I.ex1 (by unfold slack; rw [how])
  have hr := hr.mono hL
  obtain ⟨hm, hM⟩ := hat.init how
  have made : ∀ {pins : List (Addr × Obj)} {σ : L2.St} {H : Hp} {s : Shared} {Qv : VK} {us : List Value} {vs : List V}, Inv X pins σ H s → Vals vs us →
      (∀ x dx, H x = none → H dx = none → dx ≠ x → lsp ⟨X.K, cad⟩ f (.ref x :: vs) (upd (upd H dx (.own x)) x (.ins (cad c) dx [])) (fun v H2 => v = .non ∧ Qv (.ref x) H2) (WE W σ)) →
      wpAny (model X.prog X.w) X.A (call (.ref (cad c)) us) (EP X pins σ Qv) X.xe s := by
    intro pins σ H s Qv us vs I0 r h
    have hq := h (s.heap.objs.size + 1) s.heap.objs.size (I0.hok.fresh (Nat.le_succ _)) (I0.hok.fresh (Nat.le_refl _)) (Nat.ne_of_lt (Nat.lt_succ_self _))
    have I2 := Inv.made (C := cad c) I0
    have r2 : Vals (V.ref (s.heap.objs.size + 1) :: vs) (Value.ref (s.heap.objs.size + 1) :: us) := .cons rfl r
    have b := hbd { s with heap := (s.heap.push PySem.W.emptyDict).push (PySem.W.instObj (cad c) s.heap.objs.size) } (Value.ref (s.heap.objs.size + 1) :: us) I2.kIn (by rw [List.append_nil, ← r2.length]; exact lsp_len hq)
    rw [List.append_nil] at b
    refine wpAny_call (make_map (f := fa) I0.kIn hM.makes hM.init (beq_iff_eq.mp hM.fn) (codeAny_mono (F.run _ X.stack _ _ ⟨Value.ref (s.heap.objs.size + 1) :: us, []⟩ (Value.ref (s.heap.objs.size + 1) :: us) _ _ (WE W σ) gd (hr.make (cad c) us []) (I2.env0.make (cad c) us []) b r2 hq) fun r s' hq' => ?_))
    cases r with
    | error e => exact passAt tk σ pins _ _ e s' I2 hq'
    | ok fl =>
      cases fl with
      | ret u =>
        obtain ⟨v, H', I3, rv, ev, q3⟩ := I2.after hq'
        subst ev
        exact ⟨rv, ⟨V.ref (s.heap.objs.size + 1), H', I3, rfl, q3⟩⟩
      | next => exact False.elim hq'
      | brk => exact False.elim hq'
      | cont => exact False.elim hq'
  have key : ∀ {ρ α α1 : List Addr} {δ : Dst} {M M1 : Mem} {Q' : DK} {X' : XD} {σ : L2.St} {H H1 : Hp} {Qv : VK} {ds : List D} {vs : List V}, (∀ d M', Q' d M' → wv (gx X cad) ρ α H Qv d M') → (∀ c d M', X' c d M' → wx (gx X cad) W ρ α H σ c d M') → Nx [] α H α1 H1 → RDs (gx X cad) ρ H1 α1 ds vs → RM (gx X cad) ρ H1 α1 M1 →
      (clsD Γ.fn k fun c => callD Γ.fn k (.ref M1.length :: ds) (M1 ++ [.ins c []]) (fun v M2 => v = .non ∧ Q' (.ref M1.length) M2) X') →
      ∀ x dx, H1 x = none → H1 dx = none → dx ≠ x → lsp ⟨X.K, cad⟩ f (.ref x :: vs) (upd (upd H1 dx (.own x)) x (.ins (cad c) dx [])) (fun v H2 => v = .non ∧ Qv (.ref x) H2) (WE W σ) := by
    intro ρ α α1 δ M M1 Q' X' σ H H1 Qv ds vs hq hx n1 r1 m1 q x dx e1 e2 e3
    obtain ⟨f', c', m', hf', ho', q1⟩ := clsD.inv q
    rw [hf] at hf'
    cases hf'
    rw [how] at ho'
    cases ho'
    obtain ⟨f', hf', hl, q2⟩ := callD.inv q1
    rw [hf] at hf'
    cases hf'
    have nm := mk_nx (ρ := []) (α := α1) (C := cad c) e1 e2 e3
    have at0 : (α1 ++ [x])[M1.length]? = some x := by rw [← m1.len, List.getElem?_append_right (Nat.le_refl _)]; simp
    refine ⟨.ref M1.length :: ds, ρ, α1 ++ [x], M1 ++ [.ins c []], _, _, RDs.cons ⟨x, rfl, at0⟩ (r1.nx nm), mk_rm (c := c) m1 e1 e2 e3, hl, q2, fun d M' ⟨hd, z⟩ v H' α' n r m => ?_, fun c d M' x => (hx c d M' x).nx (n1.trans nm)⟩
    subst hd
    exact ⟨r, hq _ _ z _ _ _ ((n1.trans nm).trans n) ⟨x, rfl, num_nx n at0⟩ m⟩
  refine ⟨fun pins s σ H Qv I0 ⟨ρ, δ, α, M, Q', X', rs, rm, t, hq, hx⟩ => ?_⟩
  simp only [wpE] at t
  refine wpAny_Call_Name_kw (ld_glob I0 hg hm ?_ I.dbg)
  cases es with
  | nil =>
    have e := hnil rfl
    subst e
    simp only [wpEs] at t
    exact PySem.W.callWith_K0 I0.kIn hM.kp (made (us := []) I0 .nil (key (M := M) (δ := δ) hq hx (Nx.refl ..) RDs.nil rm t))
  | cons e r =>
    refine PySem.W.callWith_K (h₀ := X.base) I0.ok.mod.kin hM.kp (thn (ha.run pos pins s σ H (fun vs H1 => ∀ x dx, H1 x = none → H1 dx = none → dx ≠ x → lsp ⟨X.K, cad⟩ f (.ref x :: vs) (upd (upd H1 dx (.own x)) x (.ins (cad c) dx [])) (fun v H2 => v = .non ∧ Qv (.ref x) H2) (WE W σ)) I0
      ⟨ρ, δ, α, M, _, _, rs, rm, t, fun ds M1 q vs H1 α1 n1 r1 m1 => key (M := M) (δ := δ) hq hx n1 r1 m1 q, hx⟩) fun us s1 ⟨vs, H1, I1, r1, q⟩ => ⟨I1.kIn, ?_⟩) (hst e r rfl) (hpl e r rfl)
    exact made I1 r1 q
/-! ### isinstance of an own class, texts split, tuple(range) -/
/-- what isinstance asks of an instances' class -/
structure InsC (K : PySem.W.Frag) (mg : Str → Option Value) (cad : Cad) (c : Nat) (x : Str) : Prop where
  mg : mg x = some (.ref (cad c))
  dbg : (x == ("__debug__" : Str)) = false
  self : PySem.W.kitOne K (.ref (cad c)) (.ref (cad c)) = some true
  plain : ∀ n ∈ (["NoneType", "bool", "int", "str", "tuple", "list", "dict"] : List String), PySem.W.kitOne K (.type n) (.ref (cad c)) = some false
  cl : Cls K (cad c)
  ca : PySem.W.findIn K (.ref (cad c)) "__class__" = some (some (.builtin "object.__class__"))
  cn : PySem.W.specialIn K (.builtin "object.__class__") "__get__" = some (some (.builtin "getset_descriptor.__get__"))
  ct : PySem.W.takesIn K (.builtin "object.__class__") = some true
  cm : PySem.W.mroIn K (cad c) (.type "object") = some true
theorem tyN_in {M : Mem} {d : D} {n : String} (h : tyN M d = some n) : n ∈ (["NoneType", "bool", "int", "str", "tuple", "list", "dict"] : List String) := by
  unfold tyN at h
  split at h <;> first
    | (cases h; simp; done)
    | (split at h <;> first
        | (cases h; simp; done)
        | cases h)
    | cases h
theorem isinD.inv {M : Mem} {x : D} {c : Nat} {k : Bool → Prop} (h : isinD M x c k) : (∃ n fs, x = .ref n ∧ M[n]? = some (.ins c fs) ∧ k true) ∨ ∃ n, tyN M x = some n ∧ k false := by
  unfold isinD at h
  split at h
  · rename_i n
    split at h
    · obtain ⟨rfl, h⟩ := h
      exact .inl ⟨_, _, rfl, by assumption, h⟩
    · rename_i hm
      exact .inr ⟨"list", by simp only [tyN, hm], h⟩
    · rename_i hm
      exact .inr ⟨"dict", by simp only [tyN, hm], h⟩
    · exact h.elim
  · exact h.elim
  · exact h.elim
  · refine .inr ?_
    cases x <;> first
      | exact ⟨_, rfl, h⟩
      | (exfalso; rename_i h1 h2 h3; exact h1 _ rfl)
      | (exfalso; rename_i h1 h2 h3; exact h2 _ _ rfl)
      | (exfalso; rename_i h1 h2 h3; exact h3 _ rfl)
theorem u_isin {Γ : Tab} {c : Nat} {y : Str} {a : Expr} {a' : E} {p p2 : Pos} (hC : InsC X.K X.mg cad c y) (hm : X.mg "isinstance" = none) (hg : Gl X "isinstance") (hg2 : Gl X y) (ha : PEU X cad W a (wpE Γ a'))
    (hs : starEach [a, .Name y p2] X.env = (false, eval a X.env) :: starEach [.Name y p2] X.env) : PEU X cad W (.Call (.Name "isinstance" p) [a, .Name y p2] [] pos) (wpE Γ (.isin a' c)) := by
  have q := pe_callB (p := p) (pos := pos) call_isi hg hm isi_boot (pa_cons ha (pa_cons (pe_glob (pos := p2) hg2 hC.mg (v := .ref (cad c)) rfl hC.dbg) pa_nil (by rfl)) hs) (by decide) (by decide) hs (by rfl)
  refine q.mono fun σ H Qv ⟨ρ, δ, α, M, Q', X', rs, rm, t0, hq, hx⟩ => ?_
  simp only [wpE] at t0
  refine ⟨ρ, δ, α, M, _, _, rs, rm, t0, fun x M1 q v H1 α1 n1 r1 m1 => ?_, hx⟩
  rcases q.inv with ⟨n, fs, rfl, hm1, q'⟩ | ⟨n, h1, q'⟩
  · obtain ⟨b, rfl, hα⟩ := r1
    obtain ⟨dx, ws, h1, h2, h3⟩ := m1.get hα hm1
    exact ⟨_, _, _, _, true, rfl, .own _, .base (.ins h1 hC.cl hC.ca hC.cn hC.ct hC.cm), hC.self, hq _ _ q' _ _ _ n1 rfl m1⟩
  · exact ⟨v, _, _, _, false, rfl, .own _, tyN_of m1 r1 h1, hC.plain n (tyN_in h1), hq _ _ q' _ _ _ n1 rfl m1⟩
theorem strs_to {G : Gm} {ρ α : List Addr} {H : Hp} : ∀ (ss : List Str), RDs G ρ H α (ss.map D.str) (ss.map V.str)
  | [] => RDs.nil
  | s :: ss => RDs.cons rfl (strs_to ss)
theorem u_split {Γ : Tab} {o e : Expr} {o' e' : E} {ap : Pos} (ho : PEU X cad W o (wpE Γ o')) (he : PEU X cad W e (wpE Γ e')) (hs : starEach [e] X.env = [(false, eval e X.env)]) (hb : attributeBase o "split" X.env (eval o X.env) = eval o X.env) (hl : (ap.endLine == pos.line) = true) :
    PEU X cad W (.Call (.Attribute o "split" ap) [e] [] pos) (wpE Γ (.split o' e')) := by
  refine (pe_split (apos := ap) (pos := pos) ho he hs hb hl).mono fun σ H Qv ⟨ρ, δ, α, M, Q', X', rs, rm, t, hq, hx⟩ => ?_
  simp only [wpE] at t
  refine ⟨ρ, δ, α, M, _, _, rs, rm, t, fun x M1 q v H1 α1 n1 r1 m1 => ?_, hx⟩
  obtain ⟨z, rfl, q1⟩ := q.inv
  cases r1
  refine ⟨⟨_, rfl⟩, ρ, δ, α1, M1, _, _, rs.nx n1, m1, q1, fun y M2 q2 u H2 α2 n2 r2 m2 => ?_, fun c d M' x => (hx c d M' x).nx n1⟩
  obtain ⟨a, b, e1, rfl, hb1, hb2, q3⟩ := q2.inv
  cases e1
  cases r2
  refine ⟨_, _, rfl, rfl, hb1, by rw [sizeLine_eq]; exact hb2, fun p hp => ?_⟩
  exact new_num m2 (strs_to _) q3 (fun d M' z => (hq d M' z).nx (n1.trans n2)) p hp
theorem u_dnew {Γ : Tab} : PEU X cad W (.Dict [] [] pos) (wpE Γ .dnew) := by
  refine (pe_dnewK (pos := pos)).mono fun σ H Qv ⟨ρ, δ, α, M, Q', X', rs, rm, t, hq, hx⟩ p hp => ?_
  simp only [wpE] at t
  refine hq _ _ t _ _ (α ++ [p]) (Nx.num hp) ⟨p, rfl, ?_⟩ (rm.num hp ⟨[], upd_same, rfl, RDs.nil⟩)
  rw [← rm.len, List.getElem?_append_right (Nat.le_refl _)]; simp
theorem u_dget {Γ : Tab} {o e f : Expr} {o' e' f' : E} {ap : Pos} (hu : X.A.units + 1 < cLine) (ho : PEU X cad W o (wpE Γ o')) (he : PEU X cad W e (wpE Γ e')) (hf : PEU X cad W f (wpE Γ f')) (m : L2.M2 X o "get" ap e f pos) :
    PEU X cad W (.Call (.Attribute o "get" ap) [e, f] [] pos) (wpE Γ (.dget o' e' f')) := by
  refine (pe_dget2 hu ho he hf m).mono fun σ H Qv ⟨ρ, δ, α, M, Q', X', rs, rm, t, hq, hx⟩ => ?_
  simp only [wpE] at t
  refine ⟨ρ, δ, α, M, _, _, rs, rm, t, fun x M1 q v H1 α1 n1 r1 m1 => ?_, hx⟩
  obtain ⟨n, kvs, rfl, hm, q2⟩ := dctD.inv q
  obtain ⟨a, rfl, hα⟩ := id r1
  obtain ⟨ws, h1, h2, h3⟩ := m1.get hα hm
  refine ⟨a, rfl, .inl ⟨ws, .inl h1⟩, ρ, δ, α1, M1, _, _, rs.nx n1, m1, q2, fun y M2 q3 u H2 α2 n2 r2 m2 => ?_, fun c d M' x => (hx c d M' x).nx n1⟩
  refine ⟨ρ, δ, α2, M2, _, _, rs.nx (n1.trans n2), m2, q3, fun z M3 q4 w H3 α3 n3 r3 m3 => ?_, fun c d M' x => (hx c d M' x).nx (n1.trans n2)⟩
  obtain ⟨n', kvs', key, e1, hm3, hk, q5⟩ := dgetD.inv q4
  cases e1
  have ey := keyD_rel hk (r2.nx n3)
  subst ey
  obtain ⟨ws3, g1, g2, g3⟩ := m3.get (num_nx (n2.trans n3) hα) hm3
  refine ⟨_, DGet.k g1, ?_⟩
  rcases val_rel key g2 g3 with ⟨e1, e2⟩ | ⟨d', v', e1, e2, r4⟩
  · rw [e1] at q5
    rw [e2]
    exact hq _ _ q5 _ _ _ ((n1.trans n2).trans n3) r3 m3
  · rw [e1] at q5
    rw [e2]
    exact hq _ _ q5 _ _ _ ((n1.trans n2).trans n3) r4 m3
theorem u_dget1 {Γ : Tab} {o e : Expr} {o' e' : E} {ap : Pos} (hu : X.A.units + 1 < cLine) (ho : PEU X cad W o (wpE Γ o')) (he : PEU X cad W e (wpE Γ e')) (m : L2.M1 X o "get" ap e pos) :
    PEU X cad W (.Call (.Attribute o "get" ap) [e] [] pos) (wpE Γ (.dget1 o' e')) := by
  refine (pe_dget1 hu ho he m).mono fun σ H Qv ⟨ρ, δ, α, M, Q', X', rs, rm, t, hq, hx⟩ => ?_
  simp only [wpE] at t
  refine ⟨ρ, δ, α, M, _, _, rs, rm, t, fun x M1 q v H1 α1 n1 r1 m1 => ?_, hx⟩
  obtain ⟨n, kvs, rfl, hm, q2⟩ := dctD.inv q
  obtain ⟨a, rfl, hα⟩ := id r1
  obtain ⟨ws, h1, h2, h3⟩ := m1.get hα hm
  refine ⟨a, rfl, .inl ⟨ws, .inl h1⟩, ρ, δ, α1, M1, _, _, rs.nx n1, m1, q2, fun y M2 q3 u H2 α2 n2 r2 m2 => ?_, fun c d M' x => (hx c d M' x).nx n1⟩
  obtain ⟨n', kvs', key, e1, hm3, hk, q5⟩ := dgetD.inv q3
  cases e1
  have ey := keyD_rel hk r2
  subst ey
  obtain ⟨ws3, g1, g2, g3⟩ := m2.get (num_nx n2 hα) hm3
  refine ⟨_, DGet.k g1, ?_⟩
  rcases val_rel key g2 g3 with ⟨e1, e2⟩ | ⟨d', v', e1, e2, r4⟩
  · rw [e1] at q5
    rw [e2]
    exact hq _ _ q5 _ _ _ (n1.trans n2) rfl m2
  · rw [e1] at q5
    rw [e2]
    exact hq _ _ q5 _ _ _ (n1.trans n2) r4 m2
theorem rg_rds {G : Gm} {ρ α : List Addr} {H : Hp} (i j : Int) : RDs G ρ H α (rngL i (j - i).toNat) (rgV i j) := by
  unfold rngL rgV
  induction (List.range (j - i).toNat) with
  | nil => exact RDs.nil
  | cons k ks ih => exact RDs.cons rfl ih
theorem u_tupr {Γ : Tab} {a b : Expr} {a' b' : E} {p1 p2 q2 : Pos} (hc : X.calm = true) (hg : Gl X "tuple") (hm : X.mg "tuple" = none) (hg2 : Gl X "range") (hm2 : X.mg "range" = none) (ha : PEU X cad W a (wpE Γ a')) (hb : PEU X cad W b (wpE Γ b'))
    (na : starEach [a, b] X.env = (false, eval a X.env) :: starEach [b] X.env) (nb : starEach [b] X.env = (false, eval b X.env) :: starEach [] X.env) : PEU X cad W (.Call (.Name "tuple" p1) [.Call (.Name "range" p2) [a, b] [] q2] [] pos) (wpE Γ (.tupr a' b')) := by
  refine (pe_tupRg (p := p1) (pos := pos) hc hg hm (prg_2 (p := p2) (pos := q2) hg2 hm2 ha hb na nb (by rw [nb]; rfl)) (by rfl)).mono fun σ H Qv ⟨ρ, δ, α, M, Q', X', rs, rm, t, hq, hx⟩ => ?_
  simp only [wpE] at t
  refine ⟨ρ, δ, α, M, _, _, rs, rm, t, fun x M1 q v H1 α1 n1 r1 m1 => ?_, hx⟩
  refine ⟨ρ, δ, α1, M1, _, _, rs.nx n1, m1, q, fun y M2 q2 u H2 α2 n2 r2 m2 => ?_, fun c d M' x => (hx c d M' x).nx n1⟩
  obtain ⟨i, rfl, q3⟩ := q2.inv
  obtain ⟨j, rfl, q4⟩ := q3.inv
  have r1' := r1.nx n2
  cases r1'
  cases r2
  obtain ⟨b1, b2, b3, q5⟩ := q4
  exact ⟨i, j, rfl, rfl, ⟨b1.1, b1.2, b2.1, b2.2, b3⟩, fun q hq' => new_tup m2 (rg_rds i j) q5 (fun d M' z => (hq d M' z).nx (n1.trans n2)) q hq'⟩
/-! ### several attributes of one instance -/
noncomputable def gFld (K : PySem.W.Frag) (to : TE) (f : Str) : TG := fun v σ H Q => to σ H fun o H1 => ∃ a C dx fs, o = .ref a ∧ H1 a = some (.ins C dx fs) ∧ Cls K C ∧ NoAttr K C f ∧ fs.length < 1000 ∧ Q σ (upd H1 a (.ins C dx (putF f v fs)))
theorem pg_fld {o : Expr} {f : Str} {to : TE} {p : Pos} (ho : PE X o to) : PG X (.Attribute o f p) (gFld X.K to f) := by
  refine ⟨fun pins s σ H v u Q I r h => ?_⟩
  have ea : assign (.Attribute o f p) X.env u = (do
      let ov ← holding [u] (eval o X.env)
      standAt p.atName
      holding [u, ov] (setAttr ov f u)
      release [u, ov] []) := by first | rfl | unfold assign; rfl
  rw [ea]
  refine wpAny_bind (wpAny_holding (thn (ho.run pins s σ H _ I h) fun ov s1 ⟨x, H1, I1, r1, a, C, dx, fs, ex, e1, c1, c2, hl, q⟩ => ?_))
  subst ex
  obtain rfl : ov = Value.ref a := r1
  refine wpAny_bind (wpAny_standAt (wpAny_bind (wpAny_holding (setattr_ok I1 e1 c1 c2 hl r fun s2 I2 => ?_))))
  exact wpAny_release ⟨σ, _, I2, q⟩
noncomputable def putsF : List Str → List V → List (Str × V) → List (Str × V)
  | x :: xs, v :: vs, fs => putsF xs vs (putF x v fs)
  | _, _, fs => fs
noncomputable def gAttrs (K : PySem.W.Frag) (i : Nat) (xs : List Str) : TGs := fun vs σ H Q => ∃ a C dx fs, σ[i]? = some (some (.ref a)) ∧ H a = some (.ins C dx fs) ∧ Cls K C ∧ (∀ x ∈ xs, NoAttr K C x) ∧ fs.length + xs.length < 1000 ∧ vs.length = xs.length ∧ Q σ (upd H a (.ins C dx (putsF xs vs fs)))
noncomputable def attrsB (x0 : Str) : List Str → List Expr → Bool
  | [], [] => true
  | x :: xs, .Attribute (.Name y _) z _ :: es => y == x0 && z == x && attrsB x0 xs es
  | _, _ => false
theorem upd_id {H : Hp} {a : Addr} {o : HO} (h : H a = some o) : upd H a o = H := by
  funext b
  by_cases z : b = a
  · rw [z, upd_same, h]
  · rw [upd_ne z]
theorem upd_two {H : Hp} {a : Addr} {o u : HO} : upd (upd H a o) a u = upd H a u := by
  funext b
  by_cases z : b = a
  · rw [z, upd_same, upd_same]
  · rw [upd_ne z, upd_ne z, upd_ne z]
theorem pgs_attrs {i : Nat} {x0 : Str} (hN : X.N[i]? = some x0) (hv : Vis X.env.scope x0) (hd : (x0 == ("__debug__" : Str)) = false) (hcd : (x0 == ("__classdict__" : Str)) = false) : ∀ (xs : List Str) (es : List Expr), attrsB x0 xs es = true → PGs X es (gAttrs X.K i xs)
  | [], [], _ => ⟨fun pins s σ H vs us Q I r ⟨a, C, dx, fs, e1, e2, _, _, _, hl, q⟩ => by
    have e : vs = [] := List.eq_nil_of_length_eq_zero hl
    subst e
    refine pgs_nil.run pins s σ H [] us Q I r ⟨rfl, ?_⟩
    rw [show putsF [] [] fs = fs from rfl, upd_id e2] at q
    exact q⟩
  | [], _ :: _, h => by simp [attrsB] at h
  | _ :: _, [], h => by simp [attrsB] at h
  | x :: xs, e :: es, h => by
    cases e with
    | Attribute b z p =>
      cases b with
      | Name y py =>
        simp only [attrsB, Bool.and_eq_true, beq_iff_eq] at h
        obtain ⟨⟨rfl, rfl⟩, h3⟩ := h
        have g := pgs_cons (pg_fld (f := z) (p := p) (pe_var (pos := py) hN hv hd hcd)) (pgs_attrs hN hv hd hcd xs es h3) (by rfl)
        refine ⟨fun pins s σ H vs us Q I r ⟨a, C, dx, fs, e1, e2, c1, c2, hl, hvl, q⟩ => g.run pins s σ H vs us Q I r ?_⟩
        cases vs with
        | nil => simp at hvl
        | cons v vs =>
          simp only [List.length_cons] at hvl hl
          refine ⟨v, vs, rfl, .ref a, e1, a, C, dx, fs, rfl, e2, c1, c2 z List.mem_cons_self, by omega, a, C, dx, putF z v fs, e1, upd_same, c1, fun x hx => c2 x (List.mem_cons_of_mem _ hx), ?_, by omega, ?_⟩
          · have := length_putF z v fs; omega
          · rw [upd_two]; exact q
      | _ => simp [attrsB] at h
    | _ => simp [attrsB] at h
theorem attrs_each {x0 : Str} {env : Env} : ∀ {xs : List Str} {es : List Expr}, attrsB x0 xs es = true → (assignEach es env).length = xs.length ∧ (assignEach es env).findIdx? (·.1) = none
  | [], [], _ => ⟨rfl, rfl⟩
  | [], _ :: _, h => by simp [attrsB] at h
  | _ :: _, [], h => by simp [attrsB] at h
  | x :: xs, e :: es, h => by
    cases e with
    | Attribute b z p =>
      cases b with
      | Name y py =>
        simp only [attrsB, Bool.and_eq_true, beq_iff_eq] at h
        obtain ⟨i1, i2⟩ := attrs_each (env := env) h.2
        have e : assignEach (.Attribute (.Name y py) z p :: es) env = (false, assign (.Attribute (.Name y py) z p) env) :: assignEach es env := by rfl
        rw [e]
        refine ⟨by rw [List.length_cons, List.length_cons, i1], ?_⟩
        rw [List.findIdx?_cons, i2]; rfl
      | _ => simp [attrsB] at h
    | _ => simp [attrsB] at h
theorem puts_rel {G : Gm} {ρ α : List Addr} {H : Hp} : ∀ {xs : List Str} {ds : List D} {vs : List V} {fs gs : List (Str × D)} {ws : List (Str × V)}, putsA xs ds fs = some gs → RDs G ρ H α ds vs → fs.map (·.1) = ws.map (·.1) → RDs G ρ H α (fs.map (·.2)) (ws.map (·.2)) →
    vs.length = xs.length ∧ gs.map (·.1) = (putsF xs vs ws).map (·.1) ∧ RDs G ρ H α (gs.map (·.2)) ((putsF xs vs ws).map (·.2))
  | [], [], vs, fs, gs, ws, h, r, h1, h2 => by
    rw [show vs = [] from r]
    cases h
    exact ⟨rfl, h1, h2⟩
  | [], _ :: _, vs, fs, gs, ws, h, r, h1, h2 => by simp [putsA] at h
  | _ :: _, [], vs, fs, gs, ws, h, r, h1, h2 => by simp [putsA] at h
  | x :: xs, d :: ds, vs, fs, gs, ws, h, r, h1, h2 => by
    obtain ⟨v, vs', rfl, r1, rs⟩ := r
    obtain ⟨p1, p2⟩ := putA_rel (x := x) r1 h1 h2
    obtain ⟨l, g1, g2⟩ := puts_rel (show putsA xs ds (putA x d fs) = some gs from h) rs p1 p2
    exact ⟨by rw [List.length_cons, List.length_cons, l], g1, g2⟩
theorem s_sattrs {Γ : Tab} {i : Nat} {x0 : Str} {xs : List Str} {es : List Expr} {e : Expr} {e' : E} {kt : Nat} {pt : Pos} (hA : AtsOk X.K cad Γ.ats) (hc : X.calm = true) (hN : X.N[i]? = some x0) (hv : Vis X.env.scope x0) (hd : (x0 == ("__debug__" : Str)) = false) (hcd : (x0 == ("__classdict__" : Str)) = false)
    (hne : xs ≠ []) (hb : attrsB x0 xs es = true) (he : PEU X cad W e (wpE Γ e')) (hs : swapsWithSole [.Tuple es kt pt] e pos.line X.env = pure false) (hw : swappedStores [.Tuple es kt pt] e X.env = pure none) : PSU X cad W (.Assign [.Tuple es kt pt] e pos) (wpS Γ (.sattrs i xs e')) :=
  (ps_asg he (pg_tup (pos := pt) (k := kt) hc (pgs_attrs hN hv hd hcd xs es hb) (attrs_each hb).1 (attrs_each hb).2) hs hw (by rfl)).mono fun D σ H ⟨ρ, δ, α, M, E', rs, rm, t, el⟩ => by
    simp only [wpS] at t
    refine ⟨ρ, δ, α, M, _, _, rs, rm, t, fun d M1 q v H1 α1 n1 r1 m1 => ?_, fun c d M' x => el.wx rs x⟩
    obtain ⟨ds, rfl, q1⟩ := tupD.inv q
    obtain ⟨y, hy, q2⟩ := slotD.inv q1
    obtain ⟨n, c, fs, rfl, hm, ha, hl, q3⟩ := insD.inv q2
    split at q3 <;> try contradiction
    rename_i gs hg
    obtain ⟨a, vs, rfl, t1, rds⟩ := r1
    obtain ⟨w, hw1, rw1⟩ := (rs.nx n1).2 i _ hy
    obtain ⟨b, rfl, hα⟩ := rw1
    obtain ⟨dx, ws, h1, h2, h3⟩ := m1.get hα hm
    obtain ⟨l, g1, g2⟩ := puts_rel hg rds h2 h3
    have nw : Nx [] α1 H1 α1 (upd H1 b (.ins (cad c) dx (putsF xs vs ws))) := Nx.write h1 (List.mem_of_getElem? hα)
    obtain ⟨x1, hx1⟩ := List.exists_mem_of_ne_nil xs hne
    have cl := (hA _ (ha x1 hx1)).1
    exact ⟨a, vs, rfl, t1.sqt, l, b, cad c, dx, ws, hw1, h1, cl, fun x hx => (hA _ (ha x hx)).2, by rw [← len_rel h2]; exact hl, l, el.nx _ _ q3 _ _ _ (n1.trans nw) (rs.nx (n1.trans nw)) (m1.write hα ⟨dx, _, upd_same, g1, g2.nx nw⟩)⟩
end
end AA
/-! AA7j: two places at once: (o[i], p[j]) = e; (o.x, name) = e. -/
namespace AA
open PySem PySem.Spec L2
open PyProof.Rows hiding St
section
variable {X : Cx} {cad : Cad} {W : WX} {pos : Pos}
theorem put_go {ρ α : List Addr} {H : Hp} {M : Mem} {x y d : D} {u w v : V} {K : Mem → Prop} {Z : Hp → Prop} (rm : RM (gx X cad) ρ H α M) (r2 : RD (gx X cad) ρ H α x u) (r3 : RD (gx X cad) ρ H α y w) (r1 : RD (gx X cad) ρ H α d v) (q : putiD M x y d K)
    (hz : ∀ M' H', K M' → Nx [] α H α H' → RM (gx X cad) ρ H' α M' → Z H') : rSetL u w v H Z ∨ rSetD u w v H Z := by
  rcases q.inv with ⟨n, xs, k, j, rfl, hm, rfl, hj, q6⟩ | ⟨n, kvs, key, rfl, hm, hkey, hl, q6⟩
  · cases r3
    obtain ⟨a, rfl, hα⟩ := r2
    obtain ⟨us, h1, h2⟩ := rm.get hα hm
    have nw : Nx [] α H α (upd H a (.lst (us.set j v))) := Nx.write h1 (List.mem_of_getElem? hα)
    exact .inl ⟨a, us, k, j, rfl, rfl, h1, by rw [← h2.length]; exact hj, hz _ _ q6 nw (rm.write hα ⟨_, upd_same, (h2.set r1 j).nx nw⟩)⟩
  · obtain ⟨a, rfl, hα⟩ := r2
    obtain ⟨us, h1, h2, h3⟩ := rm.get hα hm
    have nw : Nx [] α H α (upd H a (.dK (putK us key v))) := Nx.write h1 (List.mem_of_getElem? hα)
    obtain ⟨p1, p2⟩ := put_rel (key := key) h2 h3 r1
    exact .inr ⟨a, us, key, rfl, keyD_rel hkey r3, h1, by rw [sizeLine_eq, ← len_rel h2]; exact hl, hz _ _ q6 nw (rm.write hα ⟨_, upd_same, p1, p2.nx nw⟩)⟩
theorem s_sub2 {Γ : Tab} {o i p j e : Expr} {o' i' p' j' e' : E} {kt : Nat} {p1 p2 pt : Pos} (hc : X.calm = true) (hu : X.A.units + 64 < cLine) (ho : PEU X cad W o (wpE Γ o')) (hi : PEU X cad W i (wpE Γ i')) (hp : PEU X cad W p (wpE Γ p')) (hj : PEU X cad W j (wpE Γ j')) (he : PEU X cad W e (wpE Γ e'))
    (hs : swapsWithSole [.Tuple [.Subscript o i p1, .Subscript p j p2] kt pt] e pos.line X.env = pure false) (hw : swappedStores [.Tuple [.Subscript o i p1, .Subscript p j p2] kt pt] e X.env = pure none)
    (ha : ∀ v, assign (.Subscript o i p1) X.env v = (do
      let ov ← holding [v] (eval o X.env)
      let iv ← holding [v, ov] (eval i X.env)
      standAt p1
      holding [v, ov, iv] (setItem ov iv v)
      release [v, ov, iv] []))
    (hb : ∀ v, assign (.Subscript p j p2) X.env v = (do
      let ov ← holding [v] (eval p X.env)
      let iv ← holding [v, ov] (eval j X.env)
      standAt p2
      holding [v, ov, iv] (setItem ov iv v)
      release [v, ov, iv] [])) : PSU X cad W (.Assign [.Tuple [.Subscript o i p1, .Subscript p j p2] kt pt] e pos) (wpS Γ (.sub2 o' i' p' j' e')) := by
  have hu1 : X.A.units + 1 < cLine := Nat.lt_of_le_of_lt (Nat.add_le_add_left (by decide) _) hu
  refine (ps_asg he (pg_tup (pos := pt) (k := kt) hc (pgs_cons (pg_sub ho hi (set_or set_list (set_dic hu1)) ha) (pgs_cons (pg_sub hp hj (set_or set_list (set_dic hu1)) hb) pgs_nil (by rfl)) (by rfl)) (by rfl) (by rfl)) hs hw (by rfl)).mono fun D σ H ⟨ρ, δ, α, M, E', rs, rm, t, el⟩ => ?_
  simp only [wpS] at t
  refine ⟨ρ, δ, α, M, _, _, rs, rm, t, fun d M1 q v H1 α1 n1 r1 m1 => ?_, fun c d M' x => el.wx rs x⟩
  obtain ⟨ds, rfl, q1⟩ := tupD.inv q
  obtain ⟨x, y, rfl, q2⟩ := twoD.inv q1
  obtain ⟨a, vs, rfl, t1, rds⟩ := r1
  obtain ⟨v1, v2, rfl, rx, ry⟩ := rds.two
  refine ⟨a, [v1, v2], rfl, t1.sqt, rfl, v1, [v2], rfl, ?_⟩
  refine ⟨ρ, δ, α1, M1, _, _, rs.nx n1, m1, q2, fun p M2 q3 u H2 α2 n2 r2 m2 => ?_, fun c d M' x => (el.wx rs x).nx n1⟩
  refine ⟨ρ, δ, α2, M2, _, _, rs.nx (n1.trans n2), m2, q3, fun k M3 q4 w H3 α3 n3 r3 m3 => ?_, fun c d M' x => (el.wx rs x).nx (n1.trans n2)⟩
  refine put_go m3 (r2.nx n3) r3 (rx.nx (n2.trans n3)) q4 fun M4 H4 q5 n4 m4 => ?_
  have n14 := ((n1.trans n2).trans n3).trans n4
  refine ⟨v2, [], rfl, ?_⟩
  refine ⟨ρ, δ, α3, M4, _, _, rs.nx n14, m4, q5, fun p M5 q6 u H5 α5 n5 r5 m5 => ?_, fun c d M' x => (el.wx rs x).nx n14⟩
  refine ⟨ρ, δ, α5, M5, _, _, rs.nx (n14.trans n5), m5, q6, fun k M6 q7 w H6 α6 n6 r6 m6 => ?_, fun c d M' x => (el.wx rs x).nx (n14.trans n5)⟩
  refine put_go m6 (r5.nx n6) r6 (ry.nx ((((n2.trans n3).trans n4).trans n5).trans n6)) q7 fun M7 H7 q8 n7 m7 => ?_
  exact ⟨rfl, el.nx _ _ q8 _ _ _ (((n14.trans n5).trans n6).trans n7) (rs.nx (((n14.trans n5).trans n6).trans n7)) m7⟩
theorem s_fldn {Γ : Tab} {o e : Expr} {o' e' : E} {x y : Str} {j : Nat} {kt : Nat} {p1 p2 pt : Pos} (hA : AtsOk X.K cad Γ.ats) (hc : X.calm = true) (hN : X.N.Nodup) (hj : X.N[j]? = some y) (hl : Loc X.env.scope y) (hf : X.fn y = true ∨ X.env.scope.names.lookup y = some .local) (ho : PEU X cad W o (wpE Γ o')) (he : PEU X cad W e (wpE Γ e'))
    (hs : swapsWithSole [.Tuple [.Attribute o x p1, .Name y p2] kt pt] e pos.line X.env = pure false) (hw : swappedStores [.Tuple [.Attribute o x p1, .Name y p2] kt pt] e X.env = pure none) : PSU X cad W (.Assign [.Tuple [.Attribute o x p1, .Name y p2] kt pt] e pos) (wpS Γ (.fldn o' x j e')) := by
  refine (ps_asg he (pg_tup (pos := pt) (k := kt) hc (pgs_cons (pg_fld (f := x) (p := p1) ho) (pgs_cons (pg_name hN hj hl hf) pgs_nil (by rfl)) (by rfl)) (by rfl) (by rfl)) hs hw (by rfl)).mono fun D σ H ⟨ρ, δ, α, M, E', rs, rm, t, el⟩ => ?_
  simp only [wpS] at t
  refine ⟨ρ, δ, α, M, _, _, rs, rm, t, fun d M1 q v H1 α1 n1 r1 m1 => ?_, fun c d M' x => el.wx rs x⟩
  obtain ⟨ds, rfl, q1⟩ := tupD.inv q
  obtain ⟨u, w, rfl, q2⟩ := twoD.inv q1
  obtain ⟨a, vs, rfl, t1, rds⟩ := r1
  obtain ⟨v1, v2, rfl, rx, ry⟩ := rds.two
  refine ⟨a, [v1, v2], rfl, t1.sqt, rfl, v1, [v2], rfl, ?_⟩
  refine ⟨ρ, δ, α1, M1, _, _, rs.nx n1, m1, q2, fun p M2 q3 z H2 α2 n2 r2 m2 => ?_, fun c d M' x => (el.wx rs x).nx n1⟩
  obtain ⟨n, c, fs, rfl, hm, hcx, hl2, q4⟩ := q3.inv
  obtain ⟨b, rfl, hα⟩ := r2
  obtain ⟨dx, ws, h1, h2, h3⟩ := m2.get hα hm
  obtain ⟨c1, c2⟩ := hA _ hcx
  have nw : Nx [] α2 H2 α2 (upd H2 b (.ins (cad c) dx (putF x v1 ws))) := Nx.write h1 (List.mem_of_getElem? hα)
  obtain ⟨e1, e2⟩ := putA_rel (x := x) (rx.nx n2) h2 h3
  have n3 := (n1.trans n2).trans nw
  exact ⟨b, _, dx, ws, rfl, h1, c1, c2, by rw [← len_rel h2]; exact hl2, v2, [], rfl, rfl, el.nx _ _ q4 _ _ _ n3 ((rs.nx n3).set (ry.nx (n2.trans nw)) j) (m2.write hα ⟨dx, _, upd_same, e1, e2.nx nw⟩)⟩
end
end AA
/-! AA8: the checker. -/
namespace AA
open PySem PySem.Spec L2
open PyProof.Rows hiding St

/-! ### looks at the syntax -/
noncomputable def visB (sc : Scope) (x : Str) : Bool := match sc.names.lookup x with
  | some .local => true | some .cell => true | some .free => true | _ => false
noncomputable def glB (sc : Scope) (x : Str) : Bool := match sc.names.lookup x with
  | some .globalImplicit => true | _ => false
noncomputable def locB (sc : Scope) (x : Str) : Bool := match sc.names.lookup x with
  | some .local => true | _ => false
noncomputable def celB (sc : Scope) (x : Str) : Bool := match sc.names.lookup x with
  | some .cell => true | _ => false
/-- an expression that stands where any value may: no star, no slice, no set, no comprehension of another kind -/
noncomputable def okX : Expr → Bool
  | .Starred .. => false | .Slice .. => false | .Set .. => false | .SetComp .. => false | .DictComp .. => false | _ => true
noncomputable def notC : Expr → Bool
  | .ListComp .. => false | .SetComp .. => false | .DictComp .. => false | _ => true
noncomputable def simpleB : Expr → Bool
  | .Name .. => true | .Subscript .. => true | .Attribute .. => true | _ => false
noncomputable def starB : Expr → Bool
  | .Starred .. => true | _ => false
/-- all targets are names that lie in a function's frame, on one line: two or three of them are stored backwards -/
noncomputable def swapB (sc : Scope) (ts vs : List Expr) : Option (Option (List Str)) :=
  if (!(ts.length == 2 || ts.length == 3) || vs.length != ts.length) = true then some none
  else if (vs.any starB) = true then some none
  else if ((ts.filterMap fun
      | .Name id pos => if (sc.names.lookup id == some .local && pos.line == (ts.head?.map (·.pos.line)).getD 0) = true then some id else none
      | _ => none).length != ts.length || (ts.filterMap fun
      | .Name id pos => if (sc.names.lookup id == some .local && pos.line == (ts.head?.map (·.pos.line)).getD 0) = true then some id else none
      | _ => none).eraseDups.length != (ts.filterMap fun
      | .Name id pos => if (sc.names.lookup id == some .local && pos.line == (ts.head?.map (·.pos.line)).getD 0) = true then some id else none
      | _ => none).length) = true then some none
  else if (vs.all (foldedForSure 8)) = true then some none
  else if (vs.all (constantsAlone 8)) = true then none
  else some (some (ts.filterMap fun
      | .Name id pos => if (sc.names.lookup id == some .local && pos.line == (ts.head?.map (·.pos.line)).getD 0) = true then some id else none
      | _ => none))
theorem swapB_ok {env : Env} (hk : env.scope.kind = .function) {ts vs : List Expr} {k k2 : Nat} {p p2 : Pos} {r : Option (List Str)} (h : swapB env.scope ts vs = some r) : swappedStores [.Tuple ts k p] (.Tuple vs k2 p2) env = pure r := by
  have hb : env.blockKind = .function := by unfold Env.blockKind; rw [hk]; rfl
  unfold swapB at h
  unfold swappedStores
  have es : (fun x => match x with | .Starred .. => true | _ => false : Expr → Bool) = starB := by funext x; cases x <;> rfl
  simp only [hb, Env.kindOf, bne_self_eq_false, Bool.or_false]
  by_cases h1 : (!(ts.length == 2 || ts.length == 3) || vs.length != ts.length) = true
  · rw [if_pos h1] at h ⊢; cases h; rfl
  rw [if_neg h1] at h ⊢
  by_cases h2 : (vs.any starB) = true
  · rw [if_pos h2] at h
    cases h
    first | rw [if_pos h2] | (rw [if_pos (by rw [← es] at h2; exact h2)])
  rw [if_neg h2] at h
  rw [if_neg (by rw [← es] at h2; exact h2)]
  split at h
  · rename_i h3
    cases h
    exact if_pos h3
  · rename_i h3
    refine (if_neg h3).trans ?_
    split at h
    · rename_i h4
      cases h
      exact if_pos h4
    · rename_i h4
      refine (if_neg h4).trans ?_
      split at h
      · cases h
      · rename_i h5
        cases h
        exact (if_neg h5).trans rfl
noncomputable def notTup : Expr → Bool
  | .Tuple .. => false | .List .. => false | _ => true
noncomputable def swapNone (sc : Scope) (tg e : Expr) : Bool := match tg, e with
  | .Tuple ts _ _, .Tuple vs _ _ => (match swapB sc ts vs with | some none => true | _ => false)
  | .List .., .Tuple .. => false
  | _, _ => true
theorem swapNone_ok {env : Env} (hk : env.scope.kind = .function) {tg e : Expr} (h : swapNone env.scope tg e = true) : swappedStores [tg] e env = pure none := by
  by_cases ht : ∃ ts k p vs k2 p2, tg = .Tuple ts k p ∧ e = .Tuple vs k2 p2
  · obtain ⟨ts, k, p, vs, k2, p2, rfl, rfl⟩ := ht
    simp only [swapNone] at h
    split at h
    · rename_i h'; exact swapB_ok hk h'
    · cases h
  · unfold swappedStores
    cases tg <;> cases e <;> first
      | rfl
      | (exact absurd ⟨_, _, _, _, _, _, rfl, rfl⟩ ht)
      | (simp [swapNone] at h; done)
/-- [..] given to a name that lies in the frame, on its line: the name is taken within the comprehension's frame -/
noncomputable def swC (sc : Scope) (y : Str) (py : Pos) (scope : Scope) (p : Pos) : Bool := locB sc y && py.line == p.line && !(scope.names.any fun (n, k) => n == y && (k == .local || k == .cell))
noncomputable def swOk (sc : Scope) (tg e : Expr) : Bool := match e with
  | .ListComp _ _ scope p => (match tg with | .Name y py => !swC sc y py scope p | _ => true)
  | .SetComp .. => false
  | .DictComp .. => false
  | _ => true
theorem swOk_ok {env : Env} (hk : env.scope.kind = .function) {tg e : Expr} {l : Nat} (h : swOk env.scope tg e = true) : swapsWithSole [tg] e l env = pure false := by
  have hb : env.blockKind = .function := by unfold Env.blockKind; rw [hk]; rfl
  show swapsWith e (some tg) l env = pure false
  unfold swapsWith
  cases e <;> first
    | rfl
    | (simp [swOk] at h; done)
    | (cases tg <;> first
        | rfl
        | (rename_i y py
           simp only [swOk, swC, locB, Bool.not_eq_true'] at h
           simp only [Env.kindOf, hb]
           have e : (match List.lookup y env.scope.names with | some NameKind.local => true | x => false) = (List.lookup y env.scope.names == some NameKind.local) := by
             cases List.lookup y env.scope.names with
             | none => rfl
             | some k => cases k <;> rfl
           rw [e] at h
           have e2 : (ScopeKind.function == ScopeKind.function) = true := rfl
           rw [e2, Bool.true_and]
           exact congrArg pure h))
theorem swC_ok {env : Env} (hk : env.scope.kind = .function) {y : Str} {py p : Pos} {elt : Expr} {gs : List Comprehension} {scope : Scope} {l : Nat} (h : swC env.scope y py scope p = true) : swapsWith (.ListComp elt gs scope p) (some (.Name y py)) l env = pure true := by
  simp only [swC, Bool.and_eq_true, Bool.not_eq_true'] at h
  refine sw_true hk ?_ h.1.2 h.2
  have h1 := h.1.1
  unfold locB at h1
  split at h1
  · assumption
  · cases h1

/-! ### the checker -/
noncomputable def lineB (ap p : Pos) : Bool := ap.endLine == p.line
noncomputable def okS : Expr → Bool
  | .Name .. => true | .Subscript .. => true | .Attribute .. => true | .Constant .. => true | .Call _ (_ :: _) _ _ => true | _ => false
/-- may be assigned to: fn tells the cells made at the entry -/
noncomputable def bndB (N : List Str) (sc : Scope) (fn : Str → Bool) (i : Nat) (x : Str) : Bool := N[i]? == some x && (locB sc x || (celB sc x && fn x))
mutual
noncomputable def chkT (N : List Str) (sc : Scope) (fn : Str → Bool) : T → Expr → Bool
  | .nm i, .Name x _ => bndB N sc fn i x
  | .tp ts, .Tuple es _ _ => chkTs N sc fn ts es
  | _, _ => false
noncomputable def chkTs (N : List Str) (sc : Scope) (fn : Str → Bool) : Ts → List Expr → Bool
  | .nil, [] => true
  | .cons t ts, e :: es => chkT N sc fn t e && chkTs N sc fn ts es
  | _, _ => false
end
noncomputable def isTupE : Expr → Bool
  | .Tuple .. => true | _ => false
noncomputable def blkFn (scope : Scope) : Str → Bool := fun x => scope.names.lookup x == some .cell && !(x == ("<lambda>" : Str))
noncomputable def noPar (a : Arguments) : Bool := a.posonlyargs.isEmpty && a.args.isEmpty && a.vararg.isNone && a.kwonlyargs.isEmpty && a.kw_defaults.isEmpty && a.kwarg.isNone && a.defaults.isEmpty
noncomputable def namesOf (sc : Scope) : List Str := sc.names.map (·.1)
noncomputable def chkTy (Γ : Tab) : Ty → Str → Bool
  | .own c, y => (match Γ.cls[c]? with | some x => x == y | none => false)
  | .bi n, y => n == "ValueError" && y == ("ValueError" : Str)
  | t, y => isTy t && Str.ofString (tyS t) == y
/-- the k-th def stands in a class so, by that name -/
noncomputable def ownB (Γ : Tab) (k : Nat) (kd : MK) (m : Str) : Bool := match Γ.fn[k]? with
  | some f => (match f.own with | some (_, kd', m') => decide (kd' = kd) && m' == m | none => false)
  | none => false
noncomputable def newB (Γ : Tab) (k : Nat) (x : Str) : Bool := match Γ.fn[k]? with
  | some f => f.name == x && (match f.own with | some (_, .init, _) => true | _ => false)
  | none => false
noncomputable def selfB (N : List Str) (sc : Scope) (i : Nat) (xs : List Str) (es : List Expr) : Bool := match N[i]? with
  | some x0 => visB sc x0 && !(x0 == ("__debug__" : Str)) && !(x0 == ("__classdict__" : Str)) && attrsB x0 xs es
  | none => false
theorem ownB_of {Γ : Tab} {k : Nat} {kd : MK} {m : Str} (h : ownB Γ k kd m = true) : ∃ f c, Γ.fn[k]? = some f ∧ f.own = some (c, kd, m) := by
  unfold ownB at h
  split at h
  · rename_i f hf
    split at h
    · rename_i c kd' m' e
      simp only [Bool.and_eq_true, decide_eq_true_eq, beq_iff_eq] at h
      obtain ⟨rfl, rfl⟩ := h
      exact ⟨f, c, hf, e⟩
    · cases h
  · cases h
theorem newB_of {Γ : Tab} {k : Nat} {x : Str} (h : newB Γ k x = true) : ∃ f c m, Γ.fn[k]? = some f ∧ f.name = x ∧ f.own = some (c, .init, m) := by
  unfold newB at h
  split at h
  · rename_i f hf
    simp only [Bool.and_eq_true, beq_iff_eq] at h
    obtain ⟨h1, h2⟩ := h
    split at h2
    · rename_i c m e
      exact ⟨f, c, m, hf, h1, e⟩
    · cases h2
  · cases h
noncomputable def isZ : E → Bool
  | .int i => i == 0
  | _ => false
noncomputable def isNil : Es → Bool
  | .nil => true
  | _ => false
section
variable (Γ : Tab) (N : List Str)
mutual
noncomputable def chkE (sc : Scope) (fn : Str → Bool) : E → Expr → Bool
  | .var i, z' => (match z' with | .Name x _ => N[i]? == some x && visB sc x && !(x == ("__debug__" : Str)) && !(x == ("__classdict__" : Str)) | _ => false)
  | .non, z' => (match z' with | .Constant q1 _ _ => (match q1 with | .none => true | _ => false) | _ => false)
  | .bl b, z' => (match z' with | .Constant q1 _ _ => (match q1 with | .bool b' => b == b' | _ => false) | _ => false)
  | .int i, z' => (match z' with | .Constant q1 _ _ => (match q1 with | .int j => i == j | _ => false) | _ => false)
  | .str x, z' => (match z' with | .Constant q1 _ _ => (match q1 with | .str y => x == y | _ => false) | _ => false)
  | .cst k, z' => (match z' with | .Name x _ => (match Γ.cst[k]? with | some c => c.1 == x | none => false) && glB sc x | _ => false)
  | .bin op a b, z' => (match z' with | .BinOp a' o b' _ => o == bopOf op && chkE sc fn a a' && chkE sc fn b b' | _ => false)
  | .neg a, z' => (match z' with | .UnaryOp q1 a' _ => (match q1 with | .USub => chkE sc fn a a' | _ => false) | _ => false)
  | .not_ a, z' => (match z' with | .UnaryOp q1 a' _ => (match q1 with | .Not => chkE sc fn a a' | _ => false) | _ => false)
  | .and_ a b, z' => (match z' with | .BoolOp .And [a', b'] _ => chkE sc fn a a' && chkE sc fn b b' | .BoolOp .And (a' :: b' :: c' :: r) p => chkE sc fn a a' && chkE sc fn b (.BoolOp .And (b' :: c' :: r) p) | _ => false)
  | .or_ a b, z' => (match z' with | .BoolOp .Or [a', b'] _ => chkE sc fn a a' && chkE sc fn b b' | .BoolOp .Or (a' :: b' :: c' :: r) p => chkE sc fn a a' && chkE sc fn b (.BoolOp .Or (b' :: c' :: r) p) | _ => false)
  | .ife c a b, z' => (match z' with | .IfExp c' a' b' _ => chkE sc fn c c' && chkE sc fn a a' && chkE sc fn b b' | _ => false)
  | .cmp op a b, z' => (match z' with | .Compare a' q1 q2 _ => (match q1 with | [o] => (match q2 with | [b'] => o == copOf op && chkE sc fn a a' && chkE sc fn b b' | _ => false) | _ => false) | _ => false)
  | .chain op op' a b c, z' => (match z' with | .Compare a' q1 q2 _ => (match q1 with | [o, o'] => (match q2 with | [b', c'] => o == copOf op && o' == copOf op' && chkE sc fn a a' && chkE sc fn b b' && chkE sc fn c c' | _ => false) | _ => false) | _ => false)
  | .tup es, z' => (match z' with | .Tuple es' _ _ => chkEs sc fn es es' | _ => false)
  | .lst _ es, z' => (match z' with | .List es' _ => chkEs sc fn es es' | _ => false)
  | .idx a i, z' => (match z' with | .Subscript a' i' _ => chkE sc fn a a' && chkE sc fn i i' | _ => false)
  | .slc a l h, z' => (match z' with | .Subscript a' q1 _ => (match q1 with | .Slice l' h' q2 _ => (match q2 with | none => chkE sc fn a a' && chkO sc fn l l' && chkO sc fn h h' | _ => false) | _ => false) | _ => false)
  | .dic0, z' => (match z' with | .Dict q1 q2 _ => (match q1 with | [] => (match q2 with | [] => true | _ => false) | _ => false) | _ => false)
  | .rev a, z' => (match z' with | .Subscript a' (.Slice none none (some (.UnaryOp .USub (.Constant (.int 1) _ _) _)) _) _ => chkE sc fn a a' | _ => false)
  | .dmk a, z' => (match z' with | .Call q1 q2 q3 _ => (match q1 with | .Name x _ => (match q2 with | [a'] => (match q3 with | [] => x == ("dict" : Str) && glB sc x && !starB a' && chkE sc fn a a' | _ => false) | _ => false) | _ => false) | _ => false)
  | .lstm a, z' => (match z' with | .Call q1 q2 q3 _ => (match q1 with | .Name x _ => (match q2 with | [a'] => (match q3 with | [] => x == ("list" : Str) && glB sc x && !starB a' && chkE sc fn a a' | _ => false) | _ => false) | _ => false) | _ => false)
  | .revm a, z' => (match z' with | .Subscript a' (.Slice none none (some (.UnaryOp .USub (.Constant (.int 1) _ _) _)) _) _ => chkE sc fn a a' | _ => false)
  | .sset a, z' => (match z' with | .Call q1 q2 q3 _ => (match q1 with | .Name x _ => (match q2 with | [q4] => (match q4 with | .Call q5 q6 q7 _ => (match q5 with | .Name y _ => (match q6 with | [a'] => (match q7 with | [] => (match q3 with | [] => x == ("sorted" : Str) && y == ("set" : Str) && glB sc x && glB sc y && chkE sc fn a a' | _ => false) | _ => false) | _ => false) | _ => false) | _ => false) | _ => false) | _ => false) | _ => false)
  | .lrep a b, z' => (match z' with | .BinOp a' q1 b' _ => (match q1 with | .Mult => chkE sc fn a a' && chkE sc fn b b' | _ => false) | _ => false)
  | .lenset a, z' => (match z' with | .Call q1 q2 q3 _ => (match q1 with | .Name x _ => (match q2 with | [q4] => (match q4 with | .Call q5 q6 q7 _ => (match q5 with | .Name y _ => (match q6 with | [a'] => (match q7 with | [] => (match q3 with | [] => x == ("len" : Str) && y == ("set" : Str) && glB sc x && glB sc y && chkE sc fn a a' | _ => false) | _ => false) | _ => false) | _ => false) | _ => false) | _ => false) | _ => false) | _ => false)
  | .catl _ a b, z' => (match z' with | .BinOp a' q1 b' _ => (match q1 with | .Add => chkE sc fn a a' && chkE sc fn b b' | _ => false) | _ => false)
  | .pop a, z' => (match z' with | .Call q1 q2 q3 p => (match q1 with | .Attribute a' x ap => (match q2 with | [] => (match q3 with | [] => x == ("pop" : Str) && lineB ap p && okS a' && chkE sc fn a a' | _ => false) | _ => false) | _ => false) | _ => false)
  | .popi a e, z' => (match z' with | .Call q1 q2 q3 p => (match q1 with | .Attribute a' x ap => (match q2 with | [e'] => (match q3 with | [] => x == ("pop" : Str) && lineB ap p && okS a' && chkE sc fn a a' && chkE sc fn e e' | _ => false) | _ => false) | _ => false) | _ => false)
  | .attr a x, z' => (match z' with | .Attribute a' x' _ => x == x' && okS a' && chkE sc fn a a' | _ => false)
  | .prop k a, z' => (match z' with | .Attribute a' x' _ => ownB Γ k .prop x' && okS a' && chkE sc fn a a' | _ => false)
  | .mcall k a es, z' => (match z' with | .Call q1 es' q2 p => (match q1 with | .Attribute a' x ap => (match q2 with | [] => ownB Γ k .meth x && lineB ap p && okS a' && es'.all (!starB ·) && decide (es'.length < 30) && chkE sc fn a a' && chkEs sc fn es es' | _ => false) | _ => false) | _ => false)
  | .new k es, z' => (match z' with | .Call q1 es' q2 _ => (match q1 with | .Name x _ => (match q2 with | [] => newB Γ k x && glB sc x && es'.all (!starB ·) && chkEs sc fn es es' | _ => false) | _ => false) | _ => false)
  | .isin a c, z' => (match z' with | .Call q1 q2 q3 _ => (match q1 with | .Name x _ => (match q2 with | [a', q4] => (match q4 with | .Name y _ => (match q3 with | [] => x == ("isinstance" : Str) && glB sc x && Γ.ins.contains (c, y) && glB sc y && chkE sc fn a a' | _ => false) | _ => false) | _ => false) | _ => false) | _ => false)
  | .dget a k d, z' => (match z' with | .Call q1 q2 q3 p => (match q1 with | .Attribute a' x ap => (match q2 with | [k', d'] => (match q3 with | [] => x == ("get" : Str) && lineB ap p && okS a' && chkE sc fn a a' && chkE sc fn k k' && chkE sc fn d d' | _ => false) | _ => false) | _ => false) | _ => false)
  | .dget1 a k, z' => (match z' with | .Call q1 q2 q3 p => (match q1 with | .Attribute a' x ap => (match q2 with | [k'] => (match q3 with | [] => x == ("get" : Str) && lineB ap p && okS a' && chkE sc fn a a' && chkE sc fn k k' | _ => false) | _ => false) | _ => false) | _ => false)
  | .dnew, z' => (match z' with | .Dict q1 q2 _ => (match q1 with | [] => (match q2 with | [] => true | _ => false) | _ => false) | _ => false)
  | .split a e, z' => (match z' with | .Call q1 q2 q3 p => (match q1 with | .Attribute a' x ap => (match q2 with | [e'] => (match q3 with | [] => x == ("split" : Str) && lineB ap p && okS a' && chkE sc fn a a' && chkE sc fn e e' | _ => false) | _ => false) | _ => false) | _ => false)
  | .tupr a b, z' => (match z' with | .Call q1 q2 q3 _ => (match q1 with | .Name x _ => (match q2 with | [q4] => (match q4 with | .Call q5 q6 q7 _ => (match q5 with | .Name y _ => (match q6 with | [a', b'] => (match q7 with | [] => (match q3 with | [] => x == ("tuple" : Str) && y == ("range" : Str) && glB sc x && glB sc y && chkE sc fn a a' && chkE sc fn b b' | _ => false) | _ => false) | _ => false) | _ => false) | _ => false) | _ => false) | _ => false) | _ => false)
  | .nop, e' => okX e'
  | .slcm a l h, z' => (match z' with | .Subscript a' q1 _ => (match q1 with | .Slice l' h' q2 _ => (match q2 with | none => chkE sc fn a a' && chkO sc fn l l' && chkO sc fn h h' | _ => false) | _ => false) | _ => false)
  | .call k es, z' => (match z' with | .Call q1 es' q2 _ => (match q1 with | .Name x _ => (match q2 with | [] => (match Γ.fn[k]? with | some f => f.name == x && f.own.isNone | none => false) && glB sc x && es'.all (!starB ·) && chkEs sc fn es es' | _ => false) | _ => false) | _ => false)
  | .callk k es ks, z' => (match z' with | .Call q1 q2 kws _ => (match q1 with | .Name x _ => (match q2 with | [] => isNil es && (match Γ.fn[k]? with | some f => f.name == x && f.kw && (kws.map (·.arg)) == f.par.map some && f.own.isNone | none => false) && glB sc x && chkKs sc fn ks kws | _ => false) | _ => false) | _ => false)
  | .bi b es, z' => (match z' with | .Call q1 es' q2 _ => (match q1 with | .Name x _ => (match q2 with | [] => Str.ofString (biS b) == x && glB sc x && es'.all (!starB ·) && !es'.isEmpty && chkEs sc fn es es' | _ => false) | _ => false) | _ => false)
  | .isi a t, z' => (match z' with | .Call q1 q2 q3 _ => (match q1 with | .Name x _ => (match q2 with | [a', q4] => (match q4 with | .Name y _ => (match q3 with | [] => x == ("isinstance" : Str) && glB sc x && chkTy Γ t y && glB sc y && chkE sc fn a a' | _ => false) | _ => false) | _ => false) | _ => false) | _ => false)
  | .fld a x, z' => (match z' with | .Attribute a' x' _ => x == ("value" : Str) && x == x' && okS a' && chkE sc fn a a' | _ => false)
  | .comp _ own t it c e, z' => (match z' with | .ListComp e' [⟨tg, it', ifs, 0⟩] scope _ => blkC N sc scope own && (slotsT t).all (fun i => (own.map (·.2)).contains i) && scope.kind == .function && chkI sc fn tg it it' && chkT N (relS scope sc) (blkFn scope) t tg && chkC (relS scope sc) (blkFn scope) c ifs && chkE (relS scope sc) (blkFn scope) e e' | _ => false)
  | .lenr a b c, z' => (match z' with | .Call q1 q2 q3 _ => (match q1 with | .Name x _ => (match q2 with | [q4] => (match q4 with | .Call q5 q6 q7 _ => (match q5 with | .Name y _ => (match q6 with | [a', b', c'] => (match q7 with | [] => (match q3 with | [] => x == ("len" : Str) && y == ("range" : Str) && glB sc x && glB sc y && chkE sc fn a a' && chkE sc fn b b' && chkE sc fn c c' | _ => false) | _ => false) | _ => false) | _ => false) | _ => false) | _ => false) | _ => false) | _ => false)
  | .lst3 _ a b c, z' => (match z' with | .Call q1 q2 q3 _ => (match q1 with | .Name x _ => (match q2 with | [q4] => (match q4 with | .Call q5 q6 q7 _ => (match q5 with | .Name y _ => (match q6 with | [a', b', c'] => (match q7 with | [] => (match q3 with | [] => x == ("list" : Str) && y == ("range" : Str) && glB sc x && glB sc y && chkE sc fn a a' && chkE sc fn b b' && chkE sc fn c c' | _ => false) | _ => false) | _ => false) | _ => false) | _ => false) | _ => false) | _ => false) | _ => false)
  | .lsti _ a b, z' => (match z' with | .Call (.Name x _) [.Call (.Name y _) [b'] [] _] [] _ => isZ a && x == ("list" : Str) && y == ("range" : Str) && glB sc x && glB sc y && chkE sc fn b b' | .Call (.Name x _) [.Call (.Name y _) [a', b'] [] _] [] _ => x == ("list" : Str) && y == ("range" : Str) && glB sc x && glB sc y && chkE sc fn a a' && chkE sc fn b b' | _ => false)
  | .app a e, z' => (match z' with | .Call q1 q2 q3 p => (match q1 with | .Attribute a' x ap => (match q2 with | [e'] => (match q3 with | [] => x == ("append" : Str) && lineB ap p && okS a' && chkE sc fn a a' && chkE sc fn e e' | _ => false) | _ => false) | _ => false) | _ => false)
  | .ext a e, z' => (match z' with | .Call q1 q2 q3 p => (match q1 with | .Attribute a' x ap => (match q2 with | [e'] => (match q3 with | [] => x == ("extend" : Str) && lineB ap p && okS a' && chkE sc fn a a' && chkE sc fn e e' | _ => false) | _ => false) | _ => false) | _ => false)
  | .join a e, z' => (match z' with | .Call q1 q2 q3 p => (match q1 with | .Attribute a' x ap => (match q2 with | [e'] => (match q3 with | [] => x == ("join" : Str) && lineB ap p && okS a' && chkE sc fn a a' && chkE sc fn e e' | _ => false) | _ => false) | _ => false) | _ => false)
  | .hear _ c e, z' => (match z' with | .Call q1 q2 q3 _ => (match q1 with | .Name x _ => (match q2 with | [q4] => (match q4 with | .Lambda params body scope _ => (match q3 with | [] => x == ("_law_heard" : Str) && glB sc "_law_heard" && decide (Γ.cls[c]? = some ("JobError" : Str)) && noPar params && LamX.lamSB sc scope && Γ.lams.contains N && fn "<lambda>" && chkE scope (fun _ => false) e body | _ => false) | _ => false) | _ => false) | _ => false) | _ => false)
  | .cnt a e, z' => (match z' with | .Call q1 q2 q3 p => (match q1 with | .Attribute a' x ap => (match q2 with | [e'] => (match q3 with | [] => x == ("count" : Str) && lineB ap p && okS a' && chkE sc fn a a' && chkE sc fn e e' | _ => false) | _ => false) | _ => false) | _ => false)
noncomputable def chkO (sc : Scope) (fn : Str → Bool) : Op → Option Expr → Bool
  | .no, none => true
  | .so e, some e' => chkE sc fn e e'
  | _, _ => false
noncomputable def chkC (sc : Scope) (fn : Str → Bool) : Op → List Expr → Bool
  | .no, [] => true
  | .so e, [e'] => chkE sc fn e e'
  | _, _ => false
noncomputable def chkEs (sc : Scope) (fn : Str → Bool) : Es → List Expr → Bool
  | .nil, [] => true
  | .cons e es, e' :: es' => chkE sc fn e e' && chkEs sc fn es es'
  | .star e es, .Starred e' _ :: es' => chkE sc fn e e' && chkEs sc fn es es'
  | _, _ => false
noncomputable def chkKs (sc : Scope) (fn : Str → Bool) : Es → List Keyword → Bool
  | .nil, [] => true
  | .cons e es, ⟨some _, e', _⟩ :: es' => chkE sc fn e e' && chkKs sc fn es es'
  | _, _ => false
noncomputable def chkI (sc : Scope) (fn : Str → Bool) (tg : Expr) : I → Expr → Bool
  | .seq e, e' => chkE sc fn e e'
  | .rng1 a, z' => (match z' with | .Call q1 q2 q3 _ => (match q1 with | .Name x _ => (match q2 with | [a'] => (match q3 with | [] => x == ("range" : Str) && glB sc x && chkE sc fn a a' | _ => false) | _ => false) | _ => false) | _ => false)
  | .rng2 a b, z' => (match z' with | .Call q1 q2 q3 _ => (match q1 with | .Name x _ => (match q2 with | [a', b'] => (match q3 with | [] => x == ("range" : Str) && glB sc x && chkE sc fn a a' && chkE sc fn b b' | _ => false) | _ => false) | _ => false) | _ => false)
  | .enum a, z' => (match z' with | .Call q1 q2 q3 _ => (match q1 with | .Name x _ => (match q2 with | [a'] => (match q3 with | [] => x == ("enumerate" : Str) && glB sc x && isTupE tg && chkE sc fn a a' | _ => false) | _ => false) | _ => false) | _ => false)
  | .chr e, e' => chkE sc fn e e'
  | .rng3 a b c, z' => (match z' with | .Call q1 q2 q3 _ => (match q1 with | .Name x _ => (match q2 with | [a', b', c'] => (match q3 with | [] => x == ("range" : Str) && glB sc x && chkE sc fn a a' && chkE sc fn b b' && chkE sc fn c c' | _ => false) | _ => false) | _ => false) | _ => false)
  | .zip a b, z' => (match z' with | .Call q1 q2 q3 _ => (match q1 with | .Name x _ => (match q2 with | [a', b'] => (match q3 with | [] => x == ("zip" : Str) && glB sc x && isTupE tg && chkE sc fn a a' && chkE sc fn b b' | _ => false) | _ => false) | _ => false) | _ => false)
end
mutual
noncomputable def chkS (sc : Scope) (fn : Str → Bool) : S → Stmt → Bool
  | .ex e, s' => (match s' with | .Expr e' _ => notC e' && chkE Γ N sc fn e e' | _ => false)
  | .pass, s' => (match s' with | .Expr (.Constant (.str _) _ _) _ => true | .Pass _ => true | _ => false)
  | .asgc i e, s' => (match s' with | .Assign [.Name y py] (.ListComp e1 gs scope p) _ => (match e with | .comp .. => true | _ => false) && swC sc y py scope p && bndB N sc fn i y && chkE Γ N sc fn e (.ListComp e1 gs scope p) | _ => false)
  | .par i j a b, s' => (match s' with | .Assign q1 q2 _ => (match q1 with | [q4] => (match q4 with | .Tuple q5 _ _ => (match q5 with | [q6, q7] => (match q6 with | .Name x px => (match q7 with | .Name y py => (match q2 with | .Tuple q3 _ _ => (match q3 with | [a', b'] => bndB N sc fn i x && bndB N sc fn j y && locB sc x && locB sc y && !(i == j) && swapB sc [.Name x px, .Name y py] [a', b'] == some (some [x, y]) && !starB a' && !starB b' && chkE Γ N sc fn a a' && chkE Γ N sc fn b b' | _ => false) | _ => false) | _ => false) | _ => false) | _ => false) | _ => false) | _ => false) | _ => false)
  | .par3 i j l a b c, s' => (match s' with | .Assign q1 q2 _ => (match q1 with | [q4] => (match q4 with | .Tuple q5 _ _ => (match q5 with | [q6, q7, q8] => (match q6 with | .Name x px => (match q7 with | .Name y py => (match q8 with | .Name z pz => (match q2 with | .Tuple q3 _ _ => (match q3 with | [a', b', c'] => bndB N sc fn i x && bndB N sc fn j y && bndB N sc fn l z && locB sc x && locB sc y && locB sc z && !(i == j) && !(i == l) && !(j == l) && swapB sc [.Name x px, .Name y py, .Name z pz] [a', b', c'] == some (some [x, y, z]) && !starB a' && !starB b' && !starB c' && chkE Γ N sc fn a a' && chkE Γ N sc fn b b' && chkE Γ N sc fn c c' | _ => false) | _ => false) | _ => false) | _ => false) | _ => false) | _ => false) | _ => false) | _ => false) | _ => false)
  | .asgl ts e, s' => (match s' with | .Assign q1 e' _ => (match q1 with | [q2] => (match q2 with | .Tuple es k p => chkTs N sc fn ts es && swOk sc (.Tuple es k p) e' && swapNone sc (.Tuple es k p) e' && chkE Γ N sc fn e e' | _ => false) | _ => false) | _ => false)
  | .asg t e, s' => (match s' with | .Assign q1 e' _ => (match q1 with | [tg] => chkT N sc fn t tg && swOk sc tg e' && swapNone sc tg e' && chkE Γ N sc fn e e' | _ => false) | _ => false)
  | .seti o i e, s' => (match s' with | .Assign q1 e' _ => (match q1 with | [q2] => (match q2 with | .Subscript o' i' _ => swOk sc (.Subscript o' i' ⟨0, 0, 0, 0⟩) e' && okX i' && chkE Γ N sc fn o o' && chkE Γ N sc fn i i' && chkE Γ N sc fn e e' | _ => false) | _ => false) | _ => false)
  | .sub2 o i p j e, s' => (match s' with | .Assign q1 e' _ => (match q1 with | [q2] => (match q2 with | .Tuple q3 k pt => (match q3 with | [q4, q5] => (match q4 with | .Subscript o' i' p1 => (match q5 with | .Subscript p' j' p2 => swOk sc (.Tuple [.Subscript o' i' p1, .Subscript p' j' p2] k pt) e' && swapNone sc (.Tuple [.Subscript o' i' p1, .Subscript p' j' p2] k pt) e' && okX i' && okX j' && chkE Γ N sc fn o o' && chkE Γ N sc fn i i' && chkE Γ N sc fn p p' && chkE Γ N sc fn j j' && chkE Γ N sc fn e e' | _ => false) | _ => false) | _ => false) | _ => false) | _ => false) | _ => false)
  | .fldn o x j e, s' => (match s' with | .Assign q1 e' _ => (match q1 with | [q2] => (match q2 with | .Tuple q3 k pt => (match q3 with | [q4, q5] => (match q4 with | .Attribute o' x' p1 => (match q5 with | .Name y p2 => x == x' && bndB N sc fn j y && swOk sc (.Tuple [.Attribute o' x' p1, .Name y p2] k pt) e' && swapNone sc (.Tuple [.Attribute o' x' p1, .Name y p2] k pt) e' && chkE Γ N sc fn o o' && chkE Γ N sc fn e e' | _ => false) | _ => false) | _ => false) | _ => false) | _ => false) | _ => false)
  | .sattr o x e, s' => (match s' with | .Assign q1 e' _ => (match q1 with | [q2] => (match q2 with | .Attribute o' x' _ => x == x' && okS o' && okX e' && chkE Γ N sc fn o o' && chkE Γ N sc fn e e' | _ => false) | _ => false) | _ => false)
  | .sattrs i xs e, s' => (match s' with | .Assign q1 e' _ => (match q1 with | [q2] => (match q2 with | .Tuple es _ _ => selfB N sc i xs es && !xs.isEmpty && notC e' && notTup e' && chkE Γ N sc fn e e' | _ => false) | _ => false) | _ => false)
  | .ret e, s' => (match s' with | .Return q1 _ => (match q1 with | some e' => chkE Γ N sc fn e e' | _ => false) | _ => false)
  | .retn, s' => (match s' with | .Return q1 _ => (match q1 with | none => true | _ => false) | _ => false)
  | .if_ c a b, s' => (match s' with | .If c' a' b' _ => chkE Γ N sc fn c c' && chkSs sc fn a a' && chkSs sc fn b b' | _ => false)
  | .for_ t it b, s' => (match s' with | .For tg it' b' q1 _ => (match q1 with | [] => chkT N sc fn t tg && chkI Γ N sc fn tg it it' && chkSs sc fn b b' | _ => false) | _ => false)
  | .while_ c b, s' => (match s' with | .While c' b' q1 _ => (match q1 with | [] => chkE Γ N sc fn c c' && chkSs sc fn b b' | _ => false) | _ => false)
  | .rs c e, s' => (match s' with | .Raise q1 q2 _ => (match q1 with | some q3 => (match q3 with | .Call q4 q5 q6 _ => (match q4 with | .Name x _ => (match q5 with | [e'] => (match q6 with | [] => (match q2 with | none => (match Γ.cls[c]? with | some y => y == x | none => false) && glB sc x && chkE Γ N sc fn e e' | _ => false) | _ => false) | _ => false) | _ => false) | _ => false) | _ => false) | _ => false)
  | .try_ c i b j, s' => (match s' with | .Try b' q1 q2 q3 _ => (match q1 with | [q4] => (match q4 with | .ExceptHandler q5 q6 q7 _ => (match q5 with | some q12 => (match q12 with | .Name x _ => (match q6 with | some n => (match q7 with | [q8] => (match q8 with | .Assign q9 q10 _ => (match q9 with | [q11] => (match q11 with | .Name y _ => (match q10 with | .Name n' _ => (match q2 with | [] => (match q3 with | [] => (match Γ.cls[c]? with | some y => y == x | none => false) && glB sc x && bndB N sc fn i n && locB sc n && bndB N sc fn j y && n == n' && !(i == j) && !(n == ("__debug__" : Str)) && !(n == ("__classdict__" : Str)) && chkSs sc fn b b' | _ => false) | _ => false) | _ => false) | _ => false) | _ => false) | _ => false) | _ => false) | _ => false) | _ => false) | _ => false)) | _ => false) | _ => false)
  | .brk, s' => (match s' with | .Break _ => true | _ => false)
  | .cont, s' => (match s' with | .Continue _ => true | _ => false)
noncomputable def chkSs (sc : Scope) (fn : Str → Bool) : Ss → List Stmt → Bool
  | .nil, [] => true
  | .cons s ss, s' :: ss' => chkS sc fn s s' && chkSs sc fn ss ss'
  | _, _ => false
end
end
end AA
/-! AA8x: exceptions of own classes: read, asked for their class, caught and kept. -/
namespace AA
open PySem PySem.Spec L2
open PyProof.Rows hiding St

/-- what an own exception class at C says -/
structure ExcK (K : PySem.W.Frag) (C : Addr) : Prop where
  ga : PySem.W.findIn K (.ref C) "__getattribute__" = some (some (.builtin "BaseException.__getattribute__"))
  gg : PySem.W.findIn K (.ref C) "__getattr__" = some none
  sb : PySem.W.subIn K (.ref C) (.type "BaseException") = some true
  hd : PySem.W.hasDictIn K C = true
  cl : PySem.W.findIn K (.ref C) "__class__" = some (some (.builtin "object.__class__"))
  gs : PySem.W.specialIn K (.builtin "object.__class__") "__get__" = some (some (.builtin "getset_descriptor.__get__"))
  tk : PySem.W.takesIn K (.builtin "object.__class__") = some true
  mr : PySem.W.mroIn K C (.type "object") = some true
  nv : PySem.W.findIn K (.ref C) "value" = some none
section
variable {X : Cx} {cad : Cad} {W : WX} {pos : Pos}
theorem exc_there {pins : List (Addr × Obj)} {σ : L2.St} {H : Hp} {s : Shared} {a dx C : Addr} {dv : V} (I : Inv X pins σ H s) (h1 : H a = some (ExcO (.ref C) dx a)) (h2 : H dx = some (.xd [("value", dv)])) :
    ∃ oe od u, PySem.W.InstAt s.heap a oe C (some od) ∧ PySem.W.lookIn "value" od = some (some u) ∧ RelV dv u := by
  obtain ⟨⟨oe, vs, e1, z, e2⟩, _⟩ := (show ObjOk X.prog X.w H s.heap a (ExcO (.ref C) dx a) from I.hok a _ h1)
  obtain ⟨mA, hns, hr⟩ := (show ObjOk X.prog X.w H s.heap dx (.xd [("value", dv)]) from I.hok dx _ h2)
  obtain ⟨od, ho, hl⟩ := lookIn_ns hns
  have l : List.lookup ("value" : Str) [(("value" : Str), dv)] = some dv := by simp [List.lookup]
  obtain ⟨u, hu, ru⟩ := RelO.some_of (v := dv) (o := mA "value") (by rw [← l]; exact hr "value")
  exact ⟨oe, od, u, ⟨e1, z.1, by unfold PySem.W.notCls; rw [e2] <;> rfl, by rw [z.2]; exact ho⟩, by rw [hl, hu], ru⟩
/-- e.value -/
theorem u_fld {Γ : Tab} {e : Expr} {e' : E} (hf : ∀ c, c < Γ.cls.length → ExcK X.K (cad c)) (h : PEU X cad W e (wpE Γ e')) (hb : attributeBase e "value" X.env (eval e X.env) = eval e X.env) : PEU X cad W (.Attribute e "value" pos) (wpE Γ (.fld e' "value")) := by
  refine ⟨fun pins s σ H Qv I ⟨ρ, δ, α, M, Q', X', rs, rm, t, hq, hx⟩ => ?_⟩
  simp only [wpE] at t
  refine attr_of hb (thn (h.run pins s σ H (fun v H1 => ∃ a dx C dv, v = .ref a ∧ ExcK X.K C ∧ H1 a = some (ExcO (.ref C) dx a) ∧ H1 dx = some (.xd [("value", dv)]) ∧ Qv dv H1) I ⟨ρ, δ, α, M, _, _, rs, rm, t, fun d M1 q v H1 α1 n1 r1 m1 => ?_, hx⟩) fun u s1 hh => ?_)
  · cases d with
    | exc c d =>
      obtain ⟨hc, _, q⟩ := q
      obtain ⟨a, dx, dv, rfl, na, ra, ha, nd, rd, hd, r⟩ := r1
      exact ⟨a, dx, _, dv, rfl, hf c hc, ha, hd, hq _ _ q _ _ _ n1 r m1⟩
    | _ => exact q.elim
  · obtain ⟨x, H1, I1, rx, a, dx, C, dv, ex, F, h1, h2, q⟩ := hh
    subst ex
    obtain rfl : u = Value.ref a := rx
    obtain ⟨oe, od, w, J, hl, rw_⟩ := exc_there I1 h1 h2
    exact HandSPX.exc_get I1.kIn J F.ga F.gg F.sb (PySem.W.findObj_own F.hd F.nv rfl hl) (handed_of rw_) ⟨dv, H1, I1.tok _, rw_, q⟩
/-- isinstance of a caught exception, or of a plain datum -/
noncomputable def rIsiE (K : PySem.W.Frag) : List V → Hp → VK → Prop := fun xs H Q => rIsi K xs H Q ∨ ∃ (a dx C : Addr) (dv c : V) (cv : Value) (b : Bool), xs = [.ref a, c] ∧ ExcK K C ∧ H a = some (ExcO (.ref C) dx a) ∧ H dx = some (.xd [("value", dv)]) ∧ ClsV c cv ∧ PySem.W.kitOne K (.ref C) cv = some b ∧ Q (.bl b) H
theorem call_isiE : CallR X (.builtin "isinstance") (rIsiE X.K) := by
  intro pins s σ H xs us Q I r h
  rcases h with h | ⟨a, dx, C, dv, c, cv, b, rfl, F, h1, h2, hc, e, q⟩
  · exact call_isi pins s σ H xs us Q I r h
  · obtain ⟨u1, u2, rfl, r1, r2⟩ := vals2 r
    have e2 := hc.eq r2
    subst e2
    obtain rfl : u1 = Value.ref a := r1
    obtain ⟨oe, od, w, J, hl, _⟩ := exc_there I h1 h2
    have hcl : (PySem.W.clsIn X.K C).isSome = true := by
      obtain ⟨cd, hc, _⟩ := PySem.W.any_some F.hd
      rw [hc]; rfl
    exact PySem.W.kia_one (PySem.W.kitx_exc (ox := oe) (od := some od) hcl F.ga F.gg F.sb F.cl F.gs F.tk F.mr) I.kIn J e (fun z => nomatch z) fun tk => ⟨.bl b, H, I.tok tk, rfl, q⟩
/-- the plain types' names -/
noncomputable def plainTy : List String := ["NoneType", "bool", "int", "str", "tuple", "list", "dict"]
/-- an own class as it is asked for -/
structure ClsK (K : PySem.W.Frag) (mg : Str → Option Value) (cad : Cad) (nc : Nat) (sub : Nat → Nat → Bool) (c : Nat) (x : Str) : Prop where
  mg : mg x = some (.ref (cad c))
  dbg : (x == ("__debug__" : Str)) = false
  kit : ∀ c', c' < nc → PySem.W.kitOne K (.ref (cad c')) (.ref (cad c)) = some (sub c' c)
  exm : ∀ c', c' < nc → PySem.W.exmOne K (.ref (cad c')) (.ref (cad c)) = some (sub c' c)
  pl : ∀ n ∈ plainTy, PySem.W.kitOne K (.type n) (.ref (cad c)) = some false
theorem tyN_pl {M : Mem} {d : D} {n : String} (e : tyN M d = some n) : n ∈ plainTy := by
  cases d <;> simp only [tyN] at e <;> first
    | (cases e; simp [plainTy]; done)
    | (cases e; done)
    | (split at e
       · cases e; simp [plainTy]
       · cases e; simp [plainTy]
       · cases e)
theorem isiD_own {c nc : Nat} {x : D} {M : Mem} {sub : Nat → Nat → Bool} {k : Bool → Prop} (h : isiD nc (.own c) x M sub k) : (∃ n, tyN M x = some n ∧ k false) ∨ ∃ c' d, x = .exc c' d ∧ c' < nc ∧ k (sub c' c) := by
  cases x <;> (conv at h => whnf) <;> first
    | exact h.elim
    | exact .inl ⟨_, rfl, h⟩
    | exact .inr ⟨_, _, rfl, h⟩
    | (split at h
       · rename_i xs hm
         exact .inl ⟨"list", by simp only [tyN, hm], h⟩
       · exact h.elim)
theorem u_isiO {Γ : Tab} {c : Nat} {y : Str} {a : Expr} {a' : E} {p p2 : Pos} (hf : ∀ c, c < Γ.cls.length → ExcK X.K (cad c)) (hk : ClsK X.K X.mg cad Γ.cls.length Γ.sub c y) (hm : X.mg "isinstance" = none) (hg : Gl X "isinstance") (hg2 : Gl X y) (ha : PEU X cad W a (wpE Γ a'))
    (hs : starEach [a, .Name y p2] X.env = (false, eval a X.env) :: starEach [.Name y p2] X.env) : PEU X cad W (.Call (.Name "isinstance" p) [a, .Name y p2] [] pos) (wpE Γ (.isi a' (.own c))) := by
  have q := pe_callB (p := p) (pos := pos) call_isiE hg hm isi_boot (pa_cons ha (pa_cons (pe_glob (pos := p2) hg2 hk.mg (v := .ref (cad c)) rfl hk.dbg) pa_nil (by rfl)) hs) (by decide) (by decide) hs (by rfl)
  refine q.mono fun σ H Qv ⟨ρ, δ, α, M, Q', X', rs, rm, t0, hq, hx⟩ => ?_
  simp only [wpE] at t0
  refine ⟨ρ, δ, α, M, _, _, rs, rm, t0, fun x M1 q v H1 α1 n1 r1 m1 => ?_, hx⟩
  rcases isiD_own q with ⟨n, h1, h2⟩ | ⟨c', d, rfl, h1, h2⟩
  · exact .inl ⟨v, _, _, _, false, rfl, .own _, tyN_of m1 r1 h1, hk.pl n (tyN_pl h1), hq _ _ h2 _ _ _ n1 rfl m1⟩
  · obtain ⟨b, dx, dv, rfl, na, ra, ha, nd, rd, hd, r⟩ := r1
    exact .inr ⟨b, dx, _, dv, _, _, _, rfl, hf c' h1, ha, hd, .own _, hk.kit c' h1, hq _ _ h2 _ _ _ n1 rfl m1⟩
theorem ve_boot : bootBuiltins "ValueError" = some (.type "ValueError") := by decide +kernel
theorem u_isiV {Γ : Tab} {a : Expr} {a' : E} {p p2 : Pos} (hf : ∀ c, c < Γ.cls.length → ExcK X.K (cad c)) (hv : ∀ c, c < Γ.cls.length → PySem.W.kitOne X.K (.ref (cad c)) (.type "ValueError") = some true) (hm : X.mg "isinstance" = none) (hm2 : X.mg "ValueError" = none) (hg : Gl X "isinstance") (hg2 : Gl X "ValueError")
    (ha : PEU X cad W a (wpE Γ a')) (hs : starEach [a, .Name "ValueError" p2] X.env = (false, eval a X.env) :: starEach [.Name "ValueError" p2] X.env) : PEU X cad W (.Call (.Name "isinstance" p) [a, .Name "ValueError" p2] [] pos) (wpE Γ (.isi a' (.bi "ValueError"))) := by
  have q := pe_callB (p := p) (pos := pos) call_isiE hg hm isi_boot (pa_cons ha (pa_cons (pe_bltn (pos := p2) hg2 hm2 ve_boot (v := .ty "ValueError") rfl) pa_nil (by rfl)) hs) (by decide) (by decide) hs (by rfl)
  refine q.mono fun σ H Qv ⟨ρ, δ, α, M, Q', X', rs, rm, t0, hq, hx⟩ => ?_
  simp only [wpE] at t0
  refine ⟨ρ, δ, α, M, _, _, rs, rm, t0, fun x M1 q v H1 α1 n1 r1 m1 => ?_, hx⟩
  cases x with
  | non =>
    obtain ⟨_, q⟩ := q
    exact .inl ⟨v, _, _, _, false, rfl, .ty _, tyN_of (n := "NoneType") m1 r1 rfl, kit_ty (by decide +kernel), hq _ _ q _ _ _ n1 rfl m1⟩
  | exc c' d =>
    obtain ⟨h1, _, h2⟩ := q
    obtain ⟨b, dx, dv, rfl, na, ra, ha, nd, rd, hd, r⟩ := r1
    exact .inr ⟨b, dx, _, dv, _, _, _, rfl, hf c' h1, ha, hd, .ty _, hv c' h1, hq _ _ h2 _ _ _ n1 rfl m1⟩
  | _ => exact q.elim

/-! ### list(..), numbered -/
theorem ls_boot : bootBuiltins "list" = some (.type "list") := by decide +kernel
theorem u_lstm {Γ : Tab} {a : Expr} {a' : E} {p : Pos} (hg : Gl X "list") (hm : X.mg "list" = none) (ha : PEU X cad W a (wpE Γ a')) (hs : starEach [a] X.env = (false, eval a X.env) :: starEach [] X.env) : PEU X cad W (.Call (.Name "list" p) [a] [] pos) (wpE Γ (.lstm a')) := by
  have q := pe_callTy (p := p) (pos := pos) call_list_of hg hm ls_boot (pa_cons ha pa_nil hs) (by decide) (by decide) hs (by rfl)
  refine q.mono fun σ H Qv ⟨ρ, δ, α, M, Q', X', rs, rm, t, hq, hx⟩ => ?_
  simp only [wpE] at t
  refine ⟨ρ, δ, α, M, _, _, rs, rm, t, fun x M1 q v H1 α1 n1 r1 m1 => ?_, hx⟩
  obtain ⟨xs, e, q2⟩ := q.inv
  obtain ⟨b, vs, rfl, sq, rs1⟩ := seq_of m1 r1 e
  exact ⟨b, vs, rfl, sq, fun p hp => new_num m1 rs1 q2 (fun d M' z => (hq d M' z).nx n1) p hp⟩
/-! ### dict(pairs), the keys tuples of whole numbers -/
theorem dict_boot : bootBuiltins "dict" = some (.type "dict") := by decide +kernel
theorem prs_of {G : Gm} {ρ α : List Addr} {H : Hp} : ∀ {ds : List D} {vs : List V} {ks : List (List Int)}, RDs G ρ H α ds vs → pairKs ds = some ks →
    ∃ ps : List Pr, vs = ps.map (fun p => V.ref p.1) ∧ ps.map (fun p => p.2.1) = ks ∧ ∀ p ∈ ps, SqT G.K H p.1 [V.ref p.2.2.1, p.2.2.2] ∧ TupAt G.K ρ H α p.2.2.1 (p.2.1.map V.int)
  | [], vs, ks, r, e => by cases e; exact ⟨[], r, rfl, fun p hp => nomatch hp⟩
  | d :: ds, vs, ks, r, e => by
    obtain ⟨v, vs', rfl, r1, rs⟩ := r
    unfold pairKs at e
    split at e
    · rename_i xs y r' h1 h2
      split at e
      · rename_i ns hx
        cases e
        obtain ⟨ps, e1, e2, h⟩ := prs_of rs (by assumption)
        obtain ⟨a, us, rfl, t, rr⟩ := r1
        obtain ⟨u1, u2, rfl, q1, q2⟩ := rr.two
        obtain ⟨b, ws, rfl, t2, rr2⟩ := q1
        have ev := ints_rds' rr2 hx
        subst ev
        refine ⟨(a, ns, b, u2) :: ps, by rw [e1]; rfl, by rw [List.map_cons, e2], fun p hp => ?_⟩
        rcases List.mem_cons.mp hp with rfl | hp
        · exact ⟨t.sqt, t2⟩
        · exact h p hp
      · cases e
    · cases e
theorem u_dmk {Γ : Tab} {a : Expr} {a' : E} {p : Pos} (hc : X.calm = true) (hu : X.A.units + 64 < cLine) (hg : Gl X "dict") (hm : X.mg "dict" = none) (ha : PEU X cad W a (wpE Γ a')) (hs : starEach [a] X.env = (false, eval a X.env) :: starEach [] X.env) : PEU X cad W (.Call (.Name "dict" p) [a] [] pos) (wpE Γ (.dmk a')) := by
  have q := pe_callTy (p := p) (pos := pos) (call_dmk hc hu) hg hm dict_boot (pa_cons ha pa_nil hs) (by decide) (by decide) hs (by rfl)
  refine q.mono fun σ H Qv ⟨ρ, δ, α, M, Q', X', rs, rm, t, hq, hx⟩ => ?_
  simp only [wpE] at t
  refine ⟨ρ, δ, α, M, _, _, rs, rm, t, fun x M1 q v H1 α1 n1 r1 m1 => ?_, hx⟩
  obtain ⟨ds, ks, rfl, e, hn, q2⟩ := q.inv
  obtain ⟨l, vs, rfl, tl, rs1⟩ := r1
  obtain ⟨ps, rfl, e2, h⟩ := prs_of rs1 e
  have hl : ps.length ≤ 16777216 := by have := rs1.length; rw [List.length_map] at this; omega
  refine ⟨l, ps, rfl, tl.sql, hl, fun p hp => ⟨(h p hp).1, (h p hp).2.sqt⟩, fun p L hp hk hL => ?_⟩
  refine hq _ _ q2 _ _ _ (n1.trans (Nx.new hp)) ⟨p, L, rfl, ⟨fun z => ?_, fun z => m1.rho p z (.inl hp), .inl upd_same⟩, by rw [hk, e2], fun y hy => ?_⟩ (m1.new hp)
  · obtain ⟨o, e⟩ := m1.mem z
    rw [hp] at e; cases e
  · obtain ⟨z, hz, e3, e4⟩ := hL y hy
    rw [e3, e4]
    exact (h z hz).2.nx (Nx.new (ρ := []) hp)
/-! ### list(range(..)) -/
theorem rng_ints (lo : Int) (n : Nat) : rngL lo n = ((List.range n).map fun i => lo + (i : Nat)).map D.int := by unfold rngL; rw [List.map_map]; rfl
theorem rgV_ints (a b : Int) : rgV a b = ((List.range (b - a).toNat).map fun i => a + (i : Nat)).map V.int := by unfold rgV; rw [List.map_map]; rfl
theorem new_rng {ρ α : List Addr} {H : Hp} {M : Mem} {m : Bool} {i j : Int} {Q : DK} {Qv : VK} (rm : RM (gx X cad) ρ H α M) (h : if m = true then Q (.ref M.length) (M ++ [.lst (rngL i (j - i).toNat)]) else Q (.lst (rngL i (j - i).toNat)) M)
    (hq : ∀ d M', Q d M' → wv (gx X cad) ρ α H Qv d M') {q : Addr} (hn : H q = none) : Qv (.ref q) (upd H q (.lst (rgV i j))) := by
  have rs : ∀ (H' : Hp) (α' : List Addr), RDs (gx X cad) ρ H' α' (rngL i (j - i).toNat) (rgV i j) := fun H' α' => by rw [rng_ints, rgV_ints]; exact RDs.of_ints _
  cases m with
  | true =>
    simp only [if_true] at h
    have nn : Nx [] α H (α ++ [q]) (upd H q (.lst (rgV i j))) := Nx.num hn
    refine hq _ _ h _ _ _ nn ⟨q, rfl, ?_⟩ (rm.num hn ⟨_, upd_same, rs _ _⟩)
    rw [← rm.len, List.getElem?_append_right (Nat.le_refl _)]
    simp
  | false =>
    simp only [Bool.false_eq_true, if_false] at h
    refine hq _ _ h _ _ _ (Nx.new hn) ⟨q, _, rfl, .inl ⟨?_, ?_, .inl upd_same⟩, rs _ _⟩ (rm.new hn)
    · exact fun z => by obtain ⟨u, e⟩ := rm.mem z; rw [hn] at e; cases e
    · exact fun z => rm.rho _ z (.inl hn)
theorem u_lsti1 {Γ : Tab} {b : Expr} {b' : E} {m : Bool} {p p2 pos2 : Pos} (hc : X.calm = true) (hg : Gl X "list") (hm : X.mg "list" = none) (hg2 : Gl X "range") (hm2 : X.mg "range" = none) (h : PEU X cad W b (wpE Γ b')) (nb : starEach [b] X.env = (false, eval b X.env) :: starEach [] X.env) :
    PEU X cad W (.Call (.Name "list" p) [.Call (.Name "range" p2) [b] [] pos2] [] pos) (wpE Γ (.lsti m (.int 0) b')) :=
  (pe_listRg (p := p) (pos := pos) hc hg hm (prg_1 (p := p2) (pos := pos2) hg2 hm2 h nb)).mono fun σ H Qv ⟨ρ, δ, α, M, Q', X', rs, rm, t, hq, hx⟩ => by
    simp only [wpE] at t
    refine ⟨ρ, δ, α, M, _, _, rs, rm, t, fun x M1 q v H1 α1 n1 r1 m1 => ?_, hx⟩
    obtain ⟨i, ei, q⟩ := q.inv
    cases ei
    obtain ⟨j, rfl, b1, b2, b3, q⟩ := q.inv
    cases r1
    exact ⟨j, rfl, ⟨b1.1, b1.2, b2.1, b2.2, b3⟩, fun q0 hn => new_rng m1 q (fun d M' z => (hq d M' z).nx n1) hn⟩
theorem u_lsti2 {Γ : Tab} {a b : Expr} {a' b' : E} {m : Bool} {p p2 pos2 : Pos} (hc : X.calm = true) (hg : Gl X "list") (hm : X.mg "list" = none) (hg2 : Gl X "range") (hm2 : X.mg "range" = none) (ha : PEU X cad W a (wpE Γ a')) (h : PEU X cad W b (wpE Γ b'))
    (na : starEach [a, b] X.env = (false, eval a X.env) :: starEach [b] X.env) (nb : starEach [b] X.env = (false, eval b X.env) :: starEach [] X.env) :
    PEU X cad W (.Call (.Name "list" p) [.Call (.Name "range" p2) [a, b] [] pos2] [] pos) (wpE Γ (.lsti m a' b')) :=
  (pe_listRg (p := p) (pos := pos) hc hg hm (prg_2 (p := p2) (pos := pos2) hg2 hm2 ha h na nb (by rw [nb]; rfl))).mono fun σ H Qv ⟨ρ, δ, α, M, Q', X', rs, rm, t, hq, hx⟩ => by
    simp only [wpE] at t
    refine ⟨ρ, δ, α, M, _, _, rs, rm, t, fun x M1 q v H1 α1 n1 r1 m1 => ?_, hx⟩
    refine ⟨ρ, δ, α1, M1, _, _, rs.nx n1, m1, q, fun y M2 q u H2 α2 n2 r2 m2 => ?_, fun c d M' x => (hx c d M' x).nx n1⟩
    obtain ⟨i, rfl, qa⟩ := q.inv
    obtain ⟨j, rfl, b1, b2, b3, qb⟩ := qa.inv
    cases r1
    cases r2
    exact ⟨i, j, rfl, rfl, ⟨b1.1, b1.2, b2.1, b2.2, b3⟩, fun q0 hn => new_rng m2 qb (fun d M' z => (hq d M' z).nx (n1.trans n2)) hn⟩

theorem rngC_ints (lo c : Int) (n : Nat) : rngC lo c n = ((List.range n).map fun i => lo + (i : Nat) * c).map D.int := by unfold rngC; rw [List.map_map]; rfl
noncomputable def rgCV (lo c : Int) (n : Nat) : List V := ((List.range n).map fun i => lo + (i : Nat) * c).map V.int
theorem vals_rgC {lo c : Int} {n : Nat} {acc : Array Value} (h : ItemsOf (fun i v => ∃ t, v = .int (lo + i * c) t) acc n) : Vals (rgCV lo c n) acc.toList := by
  have e : acc.toList.length = n := by rw [Array.length_toList]; exact h.1
  unfold rgCV
  rw [List.map_map, ← e]
  refine vals_of_get acc.toList _ fun j u hj => ?_
  obtain ⟨t, rfl⟩ := h.2 j u (by rw [← hj, Array.getElem?_toList])
  exact ⟨t, rfl⟩
theorem new_rngC {ρ α : List Addr} {H : Hp} {M : Mem} {m : Bool} {i l : Int} {n : Nat} {Q : DK} {Qv : VK} (rm : RM (gx X cad) ρ H α M) (h : if m = true then Q (.ref M.length) (M ++ [.lst (rngC i l n)]) else Q (.lst (rngC i l n)) M)
    (hq : ∀ d M', Q d M' → wv (gx X cad) ρ α H Qv d M') {q : Addr} (hn : H q = none) : Qv (.ref q) (upd H q (.lst (rgCV i l n))) := by
  have rs : ∀ (H' : Hp) (α' : List Addr), RDs (gx X cad) ρ H' α' (rngC i l n) (rgCV i l n) := fun H' α' => by rw [rngC_ints]; exact RDs.of_ints _
  cases m with
  | true =>
    simp only [if_true] at h
    have nn : Nx [] α H (α ++ [q]) (upd H q (.lst (rgCV i l n))) := Nx.num hn
    refine hq _ _ h _ _ _ nn ⟨q, rfl, ?_⟩ (rm.num hn ⟨_, upd_same, rs _ _⟩)
    rw [← rm.len, List.getElem?_append_right (Nat.le_refl _)]
    simp
  | false =>
    simp only [Bool.false_eq_true, if_false] at h
    refine hq _ _ h _ _ _ (Nx.new hn) ⟨q, _, rfl, .inl ⟨?_, ?_, .inl upd_same⟩, rs _ _⟩ (rm.new hn)
    · exact fun z => by obtain ⟨u, e⟩ := rm.mem z; rw [hn] at e; cases e
    · exact fun z => rm.rho _ z (.inl hn)
theorem u_lst3 {Γ : Tab} {a b c : Expr} {a' b' c' : E} {m : Bool} {p p2 pos2 : Pos} (hc : X.calm = true) (hg : Gl X "list") (hm : X.mg "list" = none) (hg2 : Gl X "range") (hm2 : X.mg "range" = none) (ha : PEU X cad W a (wpE Γ a')) (hb : PEU X cad W b (wpE Γ b')) (hcc : PEU X cad W c (wpE Γ c'))
    (na : starEach [a, b, c] X.env = (false, eval a X.env) :: starEach [b, c] X.env) (nb : starEach [b, c] X.env = (false, eval b X.env) :: starEach [c] X.env) (nc : starEach [c] X.env = (false, eval c X.env) :: starEach [] X.env) :
    PEU X cad W (.Call (.Name "list" p) [.Call (.Name "range" p2) [a, b, c] [] pos2] [] pos) (wpE Γ (.lst3 m a' b' c')) := by
  refine ⟨fun pins s σ H Qv I ⟨ρ, δ, α, M, Q', X', rs, rm, t, hq, hx⟩ => ?_⟩
  simp only [wpE] at t
  have args := pa_cons ha (pa_cons hb (pa_cons hcc pa_nil nc) nb) na
  have inner : wpAny (model X.prog X.w) X.A (eval (.Call (.Name "range" p2) [a, b, c] [] pos2) X.env)
      (fun x s' => ∃ r i j k n t u v H', x = .ref r ∧ IsRange s'.heap r i j k t u v ∧ Inv X pins σ H' s' ∧ RgC i j k n ∧ n ≤ 16777216 ∧ ∀ q, H' q = none → Qv (.ref q) (upd H' q (.lst (rgCV i k n)))) X.xe s := by
    refine Call_ (ld_blt I hg2 hm2 boot_range (PyProof.Rows.callWith_type1 (thn (args.run pos2 pins s σ H (fun vs H1 => ∃ i j k n, vs = [.int i, .int j, .int k] ∧ RgC i j k n ∧ n ≤ 16777216 ∧ ∀ q, H1 q = none → Qv (.ref q) (upd H1 q (.lst (rgCV i k n)))) I ?_) fun us s1 ⟨vs, H1, I1, r1, q1⟩ => ?_) na (by rw [nb, nc]; rfl)))
    · refine ⟨ρ, δ, α, M, _, _, rs, rm, t, fun x M1 q v H1 α1 n1 r1 m1 => ?_, hx⟩
      refine ⟨ρ, δ, α1, M1, _, _, rs.nx n1, m1, q, fun y M2 q2 u H2 α2 n2 r2 m2 => ?_, fun c d M' x => (hx c d M' x).nx n1⟩
      refine ⟨ρ, δ, α2, M2, _, _, rs.nx (n1.trans n2), m2, q2, fun z M3 q3 w H3 α3 n3 r3 m3 => ?_, fun c d M' x => (hx c d M' x).nx (n1.trans n2)⟩
      obtain ⟨i, rfl, q4⟩ := q3.inv
      obtain ⟨j, rfl, q5⟩ := q4.inv
      obtain ⟨l, rfl, n, hr, hn, q6⟩ := q5.inv
      cases r1; cases r2; cases r3
      exact ⟨i, j, l, n, rfl, hr, hn, fun q0 hq0 => new_rngC m3 q6 (fun d M' z => (hq d M' z).nx ((n1.trans n2).trans n3)) hq0⟩
    · obtain ⟨i, j, k, n, e, rg, hn, q⟩ := q1
      subst e
      cases r1 with
      | cons r rr =>
        cases rr with
        | cons r' rr =>
          cases rr with
          | cons r'' rr =>
            cases rr
            obtain ⟨t, rfl⟩ := r
            obtain ⟨t', rfl⟩ := r'
            obtain ⟨t'', rfl⟩ := r''
            exact call_range_3 rg.1 ⟨_, i, j, k, n, _, _, _, H1, rfl, IsRange.new _ _ _ _ _ _ _, I1.kept fun b u e => Heap.get?_push_of_some _ e, rg, hn, q⟩ (.inl (PyProof.noPylong_small rg.2.1))
  refine Call_ (ld_blt I hg hm boot_list (PyProof.Rows.callWith_type1 (args_cons (thn inner fun x s1 ⟨r, i, j, k, n, t, u, v, H1, ex, hr, I1, rg, hn, q⟩ => args_nil ?_) (by rfl)) (by rfl)))
  subst ex
  refine call_list_range (n := n) (I1.ok.hd hc) hr rg.2.2.1 rg.2.2.2 (by omega) fun h2 tk acc c2 hk e2 hi => ?_
  refine ⟨.ref s1.heap.objs.size, upd H1 s1.heap.objs.size (.lst (rgCV i k n)), I1.laid hk (Nat.le_refl _) (show ObjOk X.prog X.w _ _ _ (.lst (rgCV i k n)) from ⟨?_, acc.toList, c2, vals_rgC hi, ?_⟩), rfl, q _ (I1.hok.fresh (Nat.le_refl _))⟩
  · unfold rgCV; rw [List.length_map, List.length_map, List.length_range, sizeLine_eq]; exact hn
  · rw [Array.toArray_toList]; exact e2

theorem u_lenr {Γ : Tab} {a b c : Expr} {a' b' c' : E} {p p2 pos2 : Pos} (hc : X.calm = true) (hg : Gl X "len") (hm : X.mg "len" = none) (hg2 : Gl X "range") (hm2 : X.mg "range" = none) (ha : PEU X cad W a (wpE Γ a')) (hb : PEU X cad W b (wpE Γ b')) (hcc : PEU X cad W c (wpE Γ c'))
    (na : starEach [a, b, c] X.env = (false, eval a X.env) :: starEach [b, c] X.env) (nb : starEach [b, c] X.env = (false, eval b X.env) :: starEach [c] X.env) (nc : starEach [c] X.env = (false, eval c X.env) :: starEach [] X.env) :
    PEU X cad W (.Call (.Name "len" p) [.Call (.Name "range" p2) [a, b, c] [] pos2] [] pos) (wpE Γ (.lenr a' b' c')) := by
  refine ⟨fun pins s σ H Qv I ⟨ρ, δ, α, M, Q', X', rs, rm, t, hq, hx⟩ => ?_⟩
  simp only [wpE] at t
  have args := pa_cons ha (pa_cons hb (pa_cons hcc pa_nil nc) nb) na
  have inner : wpAny (model X.prog X.w) X.A (eval (.Call (.Name "range" p2) [a, b, c] [] pos2) X.env)
      (fun x s' => ∃ r i j k n t u v H', x = .ref r ∧ IsRange s'.heap r i j k t u v ∧ Inv X pins σ H' s' ∧ RgC i j k n ∧ n ≤ 16777216 ∧ Qv (.int (n : Int)) H') X.xe s := by
    refine Call_ (ld_blt I hg2 hm2 boot_range (PyProof.Rows.callWith_type1 (thn (args.run pos2 pins s σ H (fun vs H1 => ∃ i j k n, vs = [.int i, .int j, .int k] ∧ RgC i j k n ∧ n ≤ 16777216 ∧ Qv (.int (n : Int)) H1) I ?_) fun us s1 ⟨vs, H1, I1, r1, q1⟩ => ?_) na (by rw [nb, nc]; rfl)))
    · refine ⟨ρ, δ, α, M, _, _, rs, rm, t, fun x M1 q v H1 α1 n1 r1 m1 => ?_, hx⟩
      refine ⟨ρ, δ, α1, M1, _, _, rs.nx n1, m1, q, fun y M2 q2 u H2 α2 n2 r2 m2 => ?_, fun c d M' x => (hx c d M' x).nx n1⟩
      refine ⟨ρ, δ, α2, M2, _, _, rs.nx (n1.trans n2), m2, q2, fun z M3 q3 w H3 α3 n3 r3 m3 => ?_, fun c d M' x => (hx c d M' x).nx (n1.trans n2)⟩
      obtain ⟨i, rfl, q4⟩ := q3.inv
      obtain ⟨j, rfl, q5⟩ := q4.inv
      obtain ⟨l, rfl, n, hr, hn, q6⟩ := q5.inv
      cases r1; cases r2; cases r3
      exact ⟨i, j, l, n, rfl, hr, hn, hq _ _ q6 _ _ _ ((n1.trans n2).trans n3) rfl m3⟩
    · obtain ⟨i, j, k, n, e, rg, hn, q⟩ := q1
      subst e
      cases r1 with
      | cons r rr =>
        cases rr with
        | cons r' rr =>
          cases rr with
          | cons r'' rr =>
            cases rr
            obtain ⟨t, rfl⟩ := r
            obtain ⟨t', rfl⟩ := r'
            obtain ⟨t'', rfl⟩ := r''
            exact call_range_3 rg.1 ⟨_, i, j, k, n, _, _, _, H1, rfl, IsRange.new _ _ _ _ _ _ _, I1.kept fun b u e => Heap.get?_push_of_some _ e, rg, hn, q⟩ (.inl (PyProof.noPylong_small rg.2.1))
  refine Call_ (ld_blt I hg hm (show bootBuiltins "len" = some (.builtin "len") by decide +kernel) (PyProof.Rows.callWith_builtin1 (args_cons (thn inner fun x s1 ⟨r, i, j, k, n, t, u, v, H1, ex, hr, I1, rg, hn, q⟩ => args_nil ?_) (by rfl)) (by rfl)))
  subst ex
  exact call_len_range (n := n) hr rg.2.2.2 (by omega) ⟨.int n, H1, I1.tok _, ⟨_, rfl⟩, q⟩

/-! ### caught and kept -/
/-- the caught exception becomes a tracked thing -/
theorem keep_exc {pins : List (Addr × Obj)} {σ : L2.St} {H : Hp} {s : Shared} {a dx : Addr} {oe : Obj} {cls : Value} {vs : Array Value} {pn : List (Addr × Obj)} (I : Inv (X.suite a ((a, oe) :: pn)) [] σ H s) (hz : Zc cls (some dx) oe) (hd : oe.data = .fields vs) (nz : X.s_0.heap.get? a = none) (np : ∀ p ∈ pn, p.1 ≠ a) :
    Inv (X.suite a pn) [] σ (upd H a (ExcO cls dx a)) s := by
  obtain ⟨e1, na, nL, nF, _⟩ := I.pin (a, oe) (List.mem_append_left _ List.mem_cons_self)
  have ne : ∀ b u, H b = some u → b ≠ a := fun b u e z => by rw [z] at e; rw [na] at e; cases e
  have nc : ∀ x c, X.env.cells.lookup x = some c → c ≠ a := fun x c e z => by
    obtain ⟨v, hv⟩ := I.cell x c e
    obtain ⟨o, h1, h2⟩ : ∃ o, s.heap.get? c = some o ∧ o.data = .cell v := by
      first | exact hv | exact ⟨_, hv.1, hv.2⟩ | (obtain ⟨o, h⟩ := hv; exact ⟨o, h⟩)
    rw [z, e1] at h1; cases h1
    rw [hd] at h2; cases h2
  refine ⟨⟨I.ok.mod, I.ok.kind, I.ok.glob, I.ok.blt, I.ok.above, I.ok.inj, I.ok.has, I.ok.cab, I.ok.hd, I.ok.frames, I.ok.stk, I.ok.exf, I.ok.bs, I.ok.bsz, I.ok.noex, I.ok.exfs, I.ok.funs, I.ok.frf⟩, I.os, I.bare, ?_, I.loc, I.cell, ?_, fun x c e => ?_, fun p hp => ?_, fun b u e => ?_, I.len⟩
  · obtain ⟨k1, k2, k3, k4, k5, k6, k7⟩ := I.base
    refine ⟨k1, k2, fun b o e n hx => ?_, k4, fun b xs e => ?_, fun b o u e => ?_, fun b ps e => ?_⟩
    · rw [upd_ne]
      · exact k3 b o e n hx
      · intro z
        rw [z] at e
        exact absurd ((show X.s_0.heap.get? a = some o from e).symm.trans nz) (by simp)
    · have z := k5 b xs e; rw [upd_ne (ne _ _ z)]; exact z
    · have z := k6 b o u e; rw [upd_ne (ne _ _ z)]; exact z
    · obtain ⟨more, z⟩ := k7 b ps e
      exact ⟨more, by rw [upd_ne (ne _ _ z)]; exact z⟩
  · rw [upd_ne (Ne.symm nL)]; exact I.free
  · rw [upd_ne (nc x c e)]; exact I.freeC x c e
  · have hp' : p ∈ pn := by rw [List.append_nil] at hp; exact hp
    obtain ⟨q1, q2, q3⟩ := I.pin p (List.mem_append_left _ (List.mem_cons_of_mem _ hp'))
    exact ⟨q1, by rw [upd_ne (np p hp')]; exact q2, q3⟩
  · by_cases hb : b = a
    · subst hb
      rw [upd_same] at e; cases e
      exact ⟨⟨oe, vs, e1, hz, hd⟩, ⟨oe, e1⟩, fun h1 h2 ⟨o', vs', w1, w2, w3⟩ k => ⟨o', vs', k _ w1, w2, w3⟩⟩
    · rw [upd_ne hb] at e
      refine (I.hok b u e).stay (fun c w _ q => q) (fun c q => ?_) fun c xs q => ?_
      · rw [upd_ne (ne _ _ q)]; exact q
      · rw [upd_ne (ne _ _ q)]; exact q
end
end AA
/-! AA8y: try .. except C as n: m = n, and raise. -/
namespace AA
open PySem PySem.Spec L2
open PyProof.Rows hiding St

/-- what the clause wishes: the exception is tracked from there on -/
noncomputable def wKeep (K : PySem.W.Frag) (nl : Nat) (c : Value) (i : Nat) (ts : TS) (Wout : WX) (D : Ends) : WX := fun cls d σ H =>
  ∃ b, PySem.W.exmOne K cls c = some b ∧ (b = true → σ.length = nl → ∃ dx, d = some dx ∧ ∀ a, H a = none → ts { nx := fun σ' H' => D.nx (σ'.set i none) H', rt := D.rt, bk := fun σ' H' => D.bk (σ'.set i none) H', ct := fun σ' H' => D.ct (σ'.set i none) H' } (σ.set i (some (.ref a))) (upd H a (ExcO cls dx a))) ∧
    (b = false → Wout cls d σ H)
section
variable {X : Cx} {x n : Str} {c : Value} {i : Nat} {body suite : List Stmt} {b₀ : Stmt} {np pos pos' : Pos} {tb : WX → TS} {ts : TS} {Wout : WX}
theorem ps_try_keep (hs : X.stack = X.env :: X.outer) (hf : X.env.frame = some X.env.locals) (hex : X.ex = []) (hN : X.N.Nodup) (hi : X.N[i]? = some n) (hln : X.env.kindOf n = some .local) (hc : Names X x c) (tk : Takes X Wout)
    (hb : ∀ (W : WX) (pn : List (Addr × Obj)) (xe : Value → Shared → Prop), Takes (X.tr pn xe) W → PassesOwn (model X.prog X.w) X.A X.env xe → PSs (X.tr pn xe) body (tb W))
    (hsu : ∀ (a : Addr) (pn : List (Addr × Obj)), PSs (X.suite a pn) (b₀ :: suite) ts) :
    PS X (.Try body [.ExceptHandler (some (.Name x np)) (some n) (b₀ :: suite) pos'] [] [] pos) (fun D σ H => tb (wKeep X.K X.N.length c i ts Wout D) D σ H) := by
  refine ⟨fun pins s σ H D I h => ?_⟩
  have okX := I.ok
  have frm : X.A.frames = some (X.env :: X.outer) := by rw [okX.frames, hs]
  have locN : Loc X.env.scope n := .inl hln
  refine wpAny_Try_except ?_
  refine wpAny_mono ((hb (wKeep X.K X.N.length c i ts Wout D) (X.pn ++ pins) (fun e s1 => wpAny (model X.prog X.w) X.A (noteFrame e X.env) (fun _ s2 => wpAny (model X.prog X.w) X.A (setFlight e none) (fun _ s3 =>
    wpAny (model X.prog X.w) X.A (handleBy e X.env [.ExceptHandler (some (.Name x np)) (some n) (b₀ :: suite) pos']) (SP X pins D) X.xe s3) X.xe s2) X.xe s1) (fun u s' air => ?_) PassesOwn.looking).run [] s σ H D (I.toTry _) h) (fun f s1 sp => ?_) (fun _ _ z => z)
  · obtain ⟨a, B, sI, pins', σ', H', cls, d, rfl, J', nb, up, sky, na, os, ag, b, hb1, yes, no⟩ := air
    have J : Inv X pins σ' H' sI := J'.ofTry okX
    have sk : Sky B (X.env :: X.outer) a (Zc cls d) X.env.locals s'.heap := by rw [← hs]; exact sky
    show wpAny (model X.prog X.w) X.A (noteFrame (.ref a) X.env) _ _ _
    refine Sky.land Zc.steady frm hf sk fun h3 fl3 up3 => ?_
    have J3 : Inv X pins σ' H' { s' with heap := h3 } := J.landed nb fl3.1 (up.trans up3) os ag
    obtain ⟨oe3, vs3, he3, hz3, hd3⟩ := fl3.there
    have out : ∀ {hh : Heap} {o : Obj} {vs : Array Value}, hh.FunFrames B (X.env :: X.outer) → hh.get? a = some o → o.data = .fields vs → a ∉ frs (X.env :: X.outer) := fun {hh o vs} ff e dd hm => by
      obtain ⟨_, o', e', hnf⟩ := ff.mem hm
      rw [e] at e'; cases e'
      exact hnf _ dd
    have nst := out fl3.2.2.1 he3 hd3
    have memL : X.env.locals ∈ frs (X.env :: X.outer) := List.mem_filterMap.mpr ⟨X.env, List.mem_cons_self, by rw [hf]⟩
    have memO : ∀ y, y ∈ X.fs → y ∈ frs (X.env :: X.outer) := fun y hm => by
      obtain ⟨e, he, q⟩ := List.mem_filterMap.mp hm
      exact List.mem_filterMap.mpr ⟨e, List.mem_cons_of_mem _ he, q⟩
    have nL : a ≠ X.env.locals := fun z => nst (by rw [z]; exact memL)
    have nF : a ∉ X.fs := fun hm => nst (memO _ hm)
    have nB : B.get? a = none := fl3.2.1
    have inB : ∀ y o, sI.heap.get? y = some o → y ≠ X.env.locals → y ∉ X.fs → y ≠ a := fun y o e n1 n2 z => by
      have q := nb y o e fun hm => by
        rcases List.mem_cons.mp (J.stkSub y hm) with w | w
        · exact n1 w
        · exact n2 w
      rw [z, nB] at q; cases q
    have nz : X.s_0.heap.get? a = none := by
      cases e : X.s_0.heap.get? a with
      | none => rfl
      | some o =>
        obtain ⟨o', e'⟩ := J.base.there a o e (by rw [hex]; exact fun z => nomatch z)
        exact absurd rfl (inB a o' e' nL nF)
    have npin : ∀ p ∈ X.pn ++ pins, p.1 ≠ a := fun p hp => by
      obtain ⟨q1, _, q3, q4, _⟩ := J.pin p hp
      exact inB _ _ q1 q3 q4
    have S3 := J3.suite he3 hd3 na nL nF
    refine wpAny_handleBy_cons (codeAny_handlers_test ?_) (by intro q; cases q)
    have LT : PySem.W.Looks (model X.prog X.w) h3 (typeOf (.ref a)) cls := fun A Q E s k q => wpAny_typeOf_ref (k _ _ he3) (by rw [hz3.1]; exact q)
    have LM := PySem.W.exm_one (M := model X.prog X.w) (J3.kIn) LT hb1
    have ask : ∀ {Q E : Value → Shared → Prop}, Q c { s' with heap := h3 } → wpAny (model X.prog X.w) (X.A.mark (some (.ref a))) (eval (.Name x np) X.env) Q E { s' with heap := h3 } := fun {Q E} q => by
      obtain ⟨hg, hdbg, hm | ⟨hm, hv, hnn⟩⟩ := hc
      · exact ld_glob (X := X.suite a ((a, oe3) :: (X.pn ++ pins))) S3 hg hm q hdbg
      · exact ld_blt (X := X.suite a ((a, oe3) :: (X.pn ++ pins))) S3 hg hm hv q hnn hdbg
    refine ask (LM.here ?_)
    cases b with
    | false =>
      show wpAny _ X.A (handleBy (.ref a) X.env []) _ _ _
      refine wpAny_handleBy_nil ?_
      obtain ⟨_, _, _, oe, vs, T, oT, ts', he, hz, hd, h1, hr⟩ := id fl3
      unfold PySem.passOn
      refine wpAny_bind (wpAny_field he hd h1 ?_)
      rw [if_neg (show ¬ ((Value.ref T == Value.none) = true) from by simp)]
      have on : wpAny (model X.prog X.w) X.A (setFlight (.ref a) X.env.frame) (fun _ s4 => wpAny (model X.prog X.w) X.A (throw (.ref a) : Sem Flow) (SP X pins D) X.xe s4) X.xe { s' with heap := h3 } := by
        rw [hf]
        refine HandSPX.setFlight_upZ fl3 fun h4 hh4 up4 => wpAny_throw (tk _ _ ?_)
        exact ⟨a, B, sI, pins, σ', H', cls, d, rfl, J, nb, (up.trans up3).trans up4, .inr (.inr (by rw [hs]; exact hh4)), na, os, ag, no rfl⟩
      first
        | exact wpAny_bind (wpAny_pure (wpAny_bind on))
        | exact wpAny_bind on
    | true =>
      obtain ⟨dx, ed, yes2⟩ := yes rfl J.len
      subst ed
      refine codeAny_handlers_suite_as ?_
      refine HandSPX.lands_againZ fl3 fun h4 fl4 up4 => ?_
      have J4 : Inv X pins σ' H' { s' with heap := h4 } := J.landed nb fl4.1 ((up.trans up3).trans up4) os ag
      obtain ⟨oe4, vs4, he4, hz4, hd4⟩ := fl4.there
      have S4 := J4.suite he4 hd4 na nL nF
      refine store_ok (X := X.suite a ((a, oe4) :: (X.pn ++ pins))) (v := .ref a) S4 hN hi locN rfl (fun s5 S5 => ?_) (.inr hln)
      have S5' := keep_exc (pins := pins) S5 hz4 hd4 nz npin
      refine wpAny_mono ((hsu a (X.pn ++ pins)).run [] s5 _ _ _ S5' (yes2 a na)) (fun f s6 sp => ?_) (fun _ _ z => False.elim z)
      have fin : ∀ {σ6 : L2.St} {H6 : Hp} {Q : Shared → Prop}, Inv (X.suite a (X.pn ++ pins)) [] σ6 H6 s6 → (∀ s7, Inv X pins (σ6.set i none) H6 s7 → Q s7) →
          wpAny (model X.prog X.w) X.A (do bindName X.env n .none; unbindBehindTheSuite X.env n pos') (fun _ s7 => Q s7) X.xe s6 := fun {σ6 H6 Q} S6 hq =>
        gone_ok (X := X) (pins := pins) ⟨okX, S6.os, S6.bare, S6.base, S6.loc, S6.cell, S6.free, S6.freeC, fun p hp => S6.pin p (List.mem_append_left _ hp), S6.hok, S6.len⟩ hN hi hln hq
      cases f with
      | next =>
        obtain ⟨σ6, H6, S6, q6⟩ := sp
        exact fin S6 fun s7 J7 => ⟨_, _, J7, q6⟩
      | brk =>
        obtain ⟨σ6, H6, S6, q6⟩ := sp
        exact fin S6 fun s7 J7 => ⟨_, _, J7, q6⟩
      | cont =>
        obtain ⟨σ6, H6, S6, q6⟩ := sp
        exact fin S6 fun s7 J7 => ⟨_, _, J7, q6⟩
      | ret u =>
        obtain ⟨v6, σ6, H6, S6, r6, q6⟩ := sp
        exact fin S6 fun s7 J7 => ⟨_, _, _, J7, r6, q6⟩
  · cases f with
    | next =>
      obtain ⟨σ', H', J', q⟩ := sp
      exact wpAny_execs_nil ⟨σ', H', J'.ofTry okX, q⟩
    | brk =>
      obtain ⟨σ', H', J', q⟩ := sp
      exact ⟨σ', H', J'.ofTry okX, q⟩
    | cont =>
      obtain ⟨σ', H', J', q⟩ := sp
      exact ⟨σ', H', J'.ofTry okX, q⟩
    | ret u =>
      obtain ⟨v, σ', H', J', r, q⟩ := sp
      exact ⟨v, σ', H', J'.ofTry okX, r, q⟩
end

/-! ### raise C(e) -/
/-- C(e) makes an exception whose own dict holds value -/
noncomputable def tMk (C : Addr) (ta : TA) : L2.St → Hp → XK → Prop := fun σ H Q => ta σ H fun vs H1 => ∃ v, vs = [v] ∧ ∀ d, H1 d = none → Q (.ref C) (some d) (upd H1 d (.xd [(("value" : Str), v)]))
noncomputable def MkOk (X : Cx) (C : Addr) (x : Str) : Prop := ∀ (a : Expr) (p pos : Pos) (ta : TA), PA X [a] ta → Gl X x → starEach [a] X.env = (false, eval a X.env) :: starEach [] X.env → PMk X (.Call (.Name x p) [a] [] pos) (tMk C ta)
section
variable {X : Cx} {cad : Cad} {W : WX} {pos : Pos}
theorem s_rs {Γ : Tab} {c : Nat} {x : Str} {a : Expr} {a' : E} {p pos2 : Pos} (hc : X.calm = true) (tk : Takes X W) (mk : MkOk X (cad c) x) (hg : Gl X x) (ha : PEU X cad W a (wpE Γ a')) (hs : starEach [a] X.env = (false, eval a X.env) :: starEach [] X.env) :
    PSU X cad W (.Raise (some (.Call (.Name x p) [a] [] pos2)) none pos) (wpS Γ (.rs c a')) :=
  (ps_raise hc tk (mk a p pos2 _ (pa_cons ha pa_nil hs) hg hs)).mono fun D σ H ⟨ρ, δ, α, M, E', rs, rm, t, el⟩ => by
    simp only [wpS] at t
    refine ⟨ρ, δ, α, M, _, _, rs, rm, t, fun d M1 q v H1 α1 n1 r1 m1 => ⟨v, rfl, fun dx hdx => ?_⟩, fun c d M' x => el.wx rs x⟩
    have nw : Nx [] α1 H1 α1 (upd H1 dx (.xd [(("value" : Str), v)])) := Nx.new hdx
    refine el.xc _ _ _ _ q dx v σ _ _ (n1.trans nw) ?_ ?_ upd_same (r1.nx nw) (rs.nx (n1.trans nw)) (m1.new hdx)
    · exact fun z => by obtain ⟨u, e⟩ := m1.mem z; rw [hdx] at e; cases e
    · exact fun z => m1.rho _ z (.inl hdx)
theorem s_try {Γ : Tab} {c i j : Nat} {x n y : Str} {body : List Stmt} {b' : Ss} {np p1 p2 p3 pos' : Pos} (hs : X.stack = X.env :: X.outer) (hf : X.env.frame = some X.env.locals) (hex : X.ex = []) (hN : X.N.Nodup) (hi : X.N[i]? = some n) (hln : X.env.scope.names.lookup n = some .local) (hij : i ≠ j)
    (hy : X.N[j]? = some y) (ly : Loc X.env.scope y) (fy : X.fn y = true ∨ X.env.scope.names.lookup y = some .local) (nd : (n == ("__debug__" : Str)) = false) (ncd : (n == ("__classdict__" : Str)) = false)
    (hg : Gl X x) (hk : ClsK X.K X.mg cad Γ.cls.length Γ.sub c x) (tk : Takes X W)
    (hb : ∀ (W : WX) (pn : List (Addr × Obj)) (xe : Value → Shared → Prop), Takes (X.tr pn xe) W → PassesOwn (model X.prog X.w) X.A X.env xe → PSsU (X.tr pn xe) cad W body (wpSs Γ b'))
    (h1 : swapsWithSole [.Name y p1] (.Name n p2) p3.line X.env = pure false) (h2 : swappedStores [.Name y p1] (.Name n p2) X.env = pure none) :
    PSU X cad W (.Try body [.ExceptHandler (some (.Name x np)) (some n) [.Assign [.Name y p1] (.Name n p2) p3] pos'] [] [] pos) (wpS Γ (.try_ c i b' j)) := by
  have suite : ∀ (a : Addr) (pn : List (Addr × Obj)), PSs (X.suite a pn) [.Assign [.Name y p1] (.Name n p2) p3] (ups (gx X cad) (fun _ _ _ _ => False) (wpSs Γ (.cons (.asg (.nm j) (.var i)) .nil))) := fun a pn =>
    ss_cons (X := X.suite a pn) (cad := cad) (s_asg (u_var (X := X.suite a pn) hi (.inl hln) nd ncd) (g_name (X := X.suite a pn) hN hy ly fy) h1 h2 rfl) ss_nil
  refine (ps_try_keep (c := .ref (cad c)) (tb := fun W => ups (gx X cad) W (wpSs Γ b')) hs hf hex hN hi hln ⟨hg, hk.dbg, .inl hk.mg⟩ tk hb suite).mono fun D σ H ⟨ρ, δ, α, M, E', rs, rm, t, el⟩ => ?_
  simp only [wpS] at t
  refine ⟨ρ, δ, α, M, _, rs, rm, t, ⟨el.nx, el.rt, el.bk, el.ct, fun c' d δ' M' q dx dv σ' H' α' n1 ndx rdx hdx r1 rs1 m1 => ?_⟩⟩
  obtain ⟨hc', q⟩ := q
  refine ⟨_, hk.exm c' hc', fun hb hlen => ⟨dx, rfl, fun a na => ?_⟩, fun hb => ?_⟩
  · rw [if_pos hb] at q
    have nw : Nx [] α' H' α' (upd H' a (ExcO (.ref (cad c')) dx a)) := Nx.new na
    have naα : a ∉ α' := fun z => by obtain ⟨u, e⟩ := m1.mem z; rw [na] at e; cases e
    have naρ : a ∉ ρ := fun z => m1.rho _ z (.inl na)
    have ndxa : dx ≠ a := ne_of_none hdx na
    have ra : RD (gx X cad) ρ (upd H' a (ExcO (.ref (cad c')) dx a)) α' (.exc c' d) (.ref a) := ⟨a, dx, dv, rfl, naα, naρ, upd_same, ndx, rdx, by rw [upd_ne ndxa]; exact hdx, r1.nx nw⟩
    have rs2 := (rs1.nx nw).set ra i
    have hil : i < δ'.length := by rw [rs1.1, hlen]; exact (List.getElem?_eq_some_iff.mp hi).1
    refine ⟨ρ, δ'.set i (some (.exc c' d)), α', M', { nx := fun δ2 M2 => δ2 = (δ'.set i (some (.exc c' d))).set j (some (.exc c' d)) ∧ M2 = M', rt := fun _ _ => False }, rs2, m1.new na, ?_, ⟨fun δ2 M2 e σ2 H2 α2 n2 r2 m2 => ?_, fun _ _ z => z.elim, fun _ _ z => z.elim, fun _ _ z => z.elim, fun _ _ _ _ z => z.elim⟩⟩
    · simp only [wpSs, wpS, wpE, slotD, List.getElem?_set_self hil, bndD, bindT]
      first | exact ⟨rfl, rfl⟩ | exact trivial | simp
    · obtain ⟨rfl, rfl⟩ := e
      refine el.nx _ _ q _ _ _ ((n1.trans nw).trans n2) ?_ m2
      have e3 : ((δ'.set i (some (AA.D.exc c' d))).set j (some (.exc c' d))).set i none = (δ'.set j (some (.exc c' d))).set i none := by
        rw [List.set_comm _ _ hij, List.set_set]
      rw [← e3]
      exact r2.clear i
  · rw [if_neg (by rw [hb]; exact Bool.false_ne_true)] at q
    exact el.xc _ _ _ _ q dx dv σ' H' α' n1 ndx rdx hdx r1 rs1 m1
end
end AA
/-! AA9: what the checker lets through keeps what is asked: expressions. -/
namespace AA
open PySem PySem.Spec L2
open PyProof.Rows hiding St

/-- the built-ins that are named -/
noncomputable def biNames : List Str := ["len", "abs", "sum", "all", "any", "min", "max", "int", "bool", "str", "tuple", "list", "dict", "repr", "sorted", "isinstance", "range", "enumerate", "zip", "ValueError", "set"]
/-- the text of the def that hears what a call raises -/
noncomputable def hN : List Str := ["look", "caught", "back", "error"]
structure HeardTxt (K : PySem.W.Frag) (mg : Str → Option Value) (g : Addr) (st : Stmt) (fd : FuncData) : Prop where
  mg : mg "_law_heard" = some (.ref g)
  fn : Fun K "_law_heard" "_law_heard" st g fd
  sc : FnScope hN ["look"] (defScope st)
  bi : Binds K fd ["look"] []
  lk : (defScope st).names.lookup ("look" : Str) = some .local ∧ (defScope st).names.lookup ("caught" : Str) = some .local ∧ (defScope st).names.lookup ("back" : Str) = some .local ∧ (defScope st).names.lookup ("error" : Str) = some .local ∧ glB (defScope st) "JobError" = true
  body : ∃ p1 p2 p3 p4 p5 p6 p7 p8 p9 p10 p11 p12 p13 p14 p15 p16 p17 p18 p19 p20 p21 : Pos, ∃ k1 k2 k3, ∃ j1 j2,
    defBody st = [.Assign [.Tuple [.Name "caught" p1, .Name "back" p2] k1 p3] (.Tuple [.Constant .none j1 p4, .Constant .none j2 p5] k2 p6) p7,
      .Try [.Assign [.Name "back" p8] (.Call (.Name "look" p9) [] [] p10) p11] [.ExceptHandler (some (.Name "JobError" p12)) (some "error") [.Assign [.Name "caught" p13] (.Name "error" p14) p15] p16] [] [] p17,
      .Return (some (.Tuple [.Name "caught" p18, .Name "back" p19] k3 p20)) p21] ∧ swapB (defScope st) [.Name "caught" p1, .Name "back" p2] [.Constant .none j1 p4, .Constant .none j2 p5] = some none
/-- where lambdas are made: the maker's code object and its table -/
structure TbOk (Γ : Tab) (cad : Cad) (L : Nat) (X : Cx) : Prop where
  tab : ∃ c P, LamX.TabB X.base X.mg c P ∧ X.env.code = .ref c ∧ (P, X.env.qual ++ "<lambda>") ∈ cad.tabs ∧ ∀ p ∈ cad.tabs, p.1 = P → p.2 = X.env.qual ++ "<lambda>"
  fns : ∃ L2, L2 + 2 ≤ L ∧ ∀ (k : Nat) f, Γ.fn[k]? = some f → FnI X.prog X.w X.K cad X.mg X.base L2 f
  hrd : ∃ g st fd, HeardTxt X.K X.mg g st fd
structure Lok (Γ : Tab) (N : List Str) (cad : Cad) (L : Nat) (sc : Scope) (fn : Str → Bool) (X : Cx) (W : WX) : Prop where
  hN : X.N = N
  hsc : X.env.scope = sc
  hfn : ∀ x, fn x = true → X.fn x = true
  nd : N.Nodup
  calm : X.calm = true
  kind : sc.kind = .function
  tk : Takes X W
  fns : ∀ (k : Nat) f, Γ.fn[k]? = some f → FnI X.prog X.w X.K cad X.mg X.base L f
  room : Room L X.A
  cst : ∀ (k : Nat) c, Γ.cst[k]? = some c → (c.1 == ("__debug__" : Str)) = false ∧ ∃ v u, X.mg c.1 = some u ∧ RelV v u ∧ ∀ ρ H α, RD (gx X cad) ρ H α c.2 v
  bi : ∀ n ∈ biNames, X.mg n = none
  rp : Γ.rp = PyData.shown
  gd : X.A.guards = some []
  exc : ∀ c, c < Γ.cls.length → ExcK X.K (cad c)
  cls : ∀ c x, Γ.cls[c]? = some x → ClsK X.K X.mg cad Γ.cls.length Γ.sub c x
  ve : ∀ c, c < Γ.cls.length → PySem.W.kitOne X.K (.ref (cad c)) (.type "ValueError") = some true
  tb : Γ.lams.contains N = true → fn "<lambda>" = true → TbOk Γ cad L X
  ats : AtsOk X.K cad Γ.ats
  ins : ∀ p ∈ Γ.ins, InsC X.K X.mg cad p.1 p.2
section
variable {Γ : Tab} {N : List Str} {cad : Cad} {L : Nat} {sc : Scope} {fn : Str → Bool} {X : Cx} {W : WX}
theorem Lok.units (l : Lok Γ N cad L sc fn X W) : X.A.units + 64 < cLine := l.room.units
theorem Lok.biOk (l : Lok Γ N cad L sc fn X W) : BiOk X Γ.rp := ⟨fun b => l.bi _ (by cases b <;> decide +kernel), by rw [l.rp]; exact cr_repr l.gd l.units⟩
theorem Lok.gl (l : Lok Γ N cad L sc fn X W) {x : Str} (h : glB sc x = true) : Gl X x := by
  unfold Gl Env.kindOf
  rw [l.hsc]
  unfold glB at h
  split at h
  · assumption
  · cases h
theorem Lok.vis (l : Lok Γ N cad L sc fn X W) {x : Str} (h : visB sc x = true) : Vis X.env.scope x := by
  rw [l.hsc]
  unfold visB at h
  split at h
  · exact .inl (by assumption)
  · exact .inr (.inl (by assumption))
  · exact .inr (.inr (by assumption))
  · cases h
theorem Lok.loc (l : Lok Γ N cad L sc fn X W) {x : Str} (h : locB sc x = true) : X.env.scope.names.lookup x = some .local := by
  rw [l.hsc]
  unfold locB at h
  split at h
  · assumption
  · cases h
theorem Lok.bnd (l : Lok Γ N cad L sc fn X W) {i : Nat} {x : Str} (h : bndB N sc fn i x = true) : X.N[i]? = some x ∧ Loc X.env.scope x ∧ (X.fn x = true ∨ X.env.scope.names.lookup x = some .local) := by
  simp only [bndB, Bool.and_eq_true, Bool.or_eq_true, beq_iff_eq] at h
  refine ⟨by rw [l.hN]; exact h.1, ?_⟩
  rcases h.2 with h | ⟨h1, h2⟩
  · exact ⟨.inl (l.loc h), .inr (l.loc h)⟩
  · refine ⟨.inr ?_, .inl (l.hfn x h2)⟩
    rw [l.hsc]
    unfold celB at h1
    split at h1
    · assumption
    · cases h1
/-- in a comprehension's block -/
theorem Lok.blk (l : Lok Γ N cad L sc fn X W) {scope : Scope} (hk : scope.kind = .function) (s : Shared) (H : Hp) (C : Addr) (cl : List (Str × Addr)) (fp : List Addr) :
    Lok Γ N cad L (relS scope sc) (blkFn scope) (X.blk s H scope (compEnvC scope cl C X.env) fp) (fun _ _ _ _ => False) := by
  refine ⟨l.hN, ?_, fun x h => by
    simp only [blkFn, Bool.and_eq_true] at h
    exact h.1, l.nd, l.calm, hk, takes0, l.fns, l.room, l.cst, l.bi, l.rp, l.gd, l.exc, l.cls, l.ve, (fun _ h => by
    simp [blkFn] at h), l.ats, l.ins⟩
  show relS scope X.env.scope = _
  rw [l.hsc]
/-! ### forms -/
theorem chk_okX {e : E} {e' : Expr} (h : chkE Γ N sc fn e e' = true) : okX e' = true := by
  cases e' <;> first
    | rfl
    | (cases e <;> first | exact absurd (show false = true from h) (by decide) | (simp only [chkE] at h; first | (cases h; done) | (simp [okX] at h; done)))
theorem star_of {e' : Expr} (h : okX e' = true) (es : List Expr) (env : Env) : starEach (e' :: es) env = (false, eval e' env) :: starEach es env := by
  cases e' <;> first
    | rfl
    | cases h
theorem plainIx_of {e' : Expr} (h : okX e' = true) : PlainIx e' := by
  intro o i
  cases e' <;> first
    | rfl
    | cases h
theorem mark_of {op : CmpOp} {e' : Expr} (h : okX e' = true) : behindInMarks op e' = false := by
  cases e' <;> first
    | rfl
    | cases h
theorem folded_of {e' : Expr} (h : okX e' = true) {env : Env} (x : Value) : foldedSetIterable e' env x = pure x := by
  cases e' <;> first
    | rfl
    | cases h
theorem base_of {o : Expr} (h : okS o = true) {x : Str} {env : Env} : attributeBase o x env (eval o env) = eval o env := by
  cases o <;> first
    | rfl
    | (cases h; done)
    | (rename_i f as ks p
       cases as <;> first
         | (simp [okS] at h; done)
         | rfl
         | (unfold attributeBase; rfl)
         | (cases f <;> rfl))
/-- a test whose expression is plain -/
noncomputable def plainT : Expr → Bool
  | .UnaryOp .Not _ _ => false | .BoolOp .. => false | .IfExp .. => false | .Compare .. => false | _ => true
theorem plainT_of {e : Expr} (h : plainT e = true) {env : Env} (whole : Sem Value) : isTrue e env whole = (do let v ← whole; standAt e.pos; holding [v] (truthy v)) := by
  cases e <;> first
    | rfl
    | (cases h; done)
    | (rename_i op a p; cases op <;> first | rfl | cases h)
theorem noStar_any {pos : Pos} {env : Env} : ∀ {es : List Expr}, (∀ e ∈ es, okX e = true) → (backTo pos (starEach es env)).any (·.1) = false
  | [], _ => rfl
  | e :: es, h => by
    rw [star_of (h e List.mem_cons_self)]
    show (false || (backTo pos (starEach es env)).any (·.1)) = false
    rw [noStar_any fun e he => h e (List.mem_cons_of_mem _ he)]; rfl
theorem chkEs_okX : ∀ {es : Es} {es' : List Expr}, es'.all (!starB ·) = true → chkEs Γ N sc fn es es' = true → ∀ e ∈ es', okX e = true
  | .nil, [], _, _, e, he => by cases he
  | .nil, _ :: _, _, h, e, he => by simp [chkEs] at h
  | .cons a as, [], _, h, e, he => by cases he
  | .cons a as, b :: bs, hs, h, e, he => by
    simp only [chkEs, Bool.and_eq_true] at h
    simp only [List.all_cons, Bool.and_eq_true] at hs
    rcases List.mem_cons.mp he with rfl | he
    · exact chk_okX h.1
    · exact chkEs_okX hs.2 h.2 e he
  | .star a as, [], _, h, e, he => by cases he
  | .star a as, b :: bs, hs, h, e, he => by
    simp only [List.all_cons, Bool.and_eq_true] at hs
    cases b <;> simp [chkEs] at h
    simp [starB] at hs
theorem tru_of {G : Gm} {ρ α : List Addr} {H : Hp} {M : Mem} (rm : RM G ρ H α M) {d : D} {v : V} {b : Bool} (r : RD G ρ H α d v) (e : truD M d = some b) : TruV G.K v H b := by
  have emp : ∀ {xs : List D} {vs : List V}, RDs G ρ H α xs vs → (!xs.isEmpty) = !vs.isEmpty := fun {xs vs} r => by
    have := r.length
    cases xs <;> cases vs <;> simp at this ⊢
  cases d with
  | non => cases r; cases e; rfl
  | bl _ => cases r; cases e; rfl
  | int _ => cases r; cases e; rfl
  | str _ => cases e
  | tup xs => obtain ⟨a, vs, rfl, t, rs⟩ := r; cases e; exact .inr (.inl ⟨vs, t.sqt, emp rs⟩)
  | lst xs => obtain ⟨a, vs, rfl, t, rs⟩ := r; cases e; exact .inl ⟨vs, t.sql, emp rs⟩
  | ref n =>
    obtain ⟨a, rfl, ha⟩ := r
    simp only [truD] at e
    split at e <;> try contradiction
    rename_i ys hm
    cases e
    obtain ⟨vs, h1, h2⟩ := rm.get ha hm
    exact .inl ⟨vs, SqL.of h1, emp h2⟩
  | exc _ _ => cases e
  | dic0 => cases e
  | dts _ => cases e
/-- a plain test: the value, then its truth -/
theorem u_truth {t : TD} {e : Expr} {tt : TTD} (hp : plainT e = true) (h : PEU X cad W e t) (hq : ∀ δ M Q Xc, tt δ M Q Xc → t δ M (fun d M1 => asTru M1 d fun b => Q b M1) Xc) : PTU X cad W e tt :=
  (pt_truth h fun wh => plainT_of hp wh).mono fun σ H Qv ⟨ρ, δ, α, M, Q', X', rs, rm, t0, hq', hx⟩ => by
    refine ⟨ρ, δ, α, M, _, _, rs, rm, hq _ _ _ _ t0, fun d M1 q v H1 α1 n1 r1 m1 => ?_, hx⟩
    obtain ⟨b, e, q'⟩ := q.inv
    exact ⟨b, tru_of m1 r1 e, hq' _ _ q' _ _ n1 m1⟩
theorem u_not {a : Expr} {a' : E} {pos : Pos} (ha : PEU X cad W a (wpE Γ a')) : PEU X cad W (.UnaryOp .Not a pos) (wpE Γ (.not_ a')) := by
  refine (pe_notT (pos := pos) ha).mono fun σ H Qv ⟨ρ, δ, α, M, Q', X', rs, rm, t, hq, hx⟩ => ?_
  simp only [wpE] at t
  refine ⟨ρ, δ, α, M, _, _, rs, rm, t, fun x M1 q v H1 α1 n1 r1 m1 => ?_, hx⟩
  obtain ⟨b, e, q'⟩ := q.inv
  exact ⟨b, tru_of m1 r1 e, hq _ _ q' _ _ _ n1 rfl m1⟩
end
end AA
/-! AA9h: a lambda without parameters that is given to the def that hears. -/
namespace AA
open PySem PySem.Spec L2
open PyProof.Rows hiding St

theorem noPar_eq {a : Arguments} (h : noPar a = true) : a = ⟨[], [], none, [], [], none, []⟩ := by
  obtain ⟨a1, a2, a3, a4, a5, a6, a7⟩ := a
  simp only [noPar, Bool.and_eq_true, List.isEmpty_iff, Option.isNone_iff_eq_none] at h
  obtain ⟨⟨⟨⟨⟨⟨h1, h2⟩, h3⟩, h4⟩, h5⟩, h6⟩, h7⟩ := h
  subst h1 h2 h3 h4 h5 h6 h7
  rfl
theorem nx_ext {α : List Addr} {H H1 : Hp} (e : LamX.ExtN H H1) : Nx [] α H α H1 := by
  refine ⟨⟨[], by simp⟩, fun a o h t _ _ => e a o h t, fun a f => ?_⟩
  cases h : H a with
  | none => exact .inl h
  | some o =>
    by_cases z : ∃ ps, o = .tbl ps
    · obtain ⟨ps, rfl⟩ := z
      exact .inr ⟨ps, h⟩
    · have t : notTbl o := fun ps w => z ⟨ps, w⟩
      exact (f.no (e a o h t) t).elim
/-- the context of the def that hears, called from X -/
noncomputable abbrev heardCx (X : Cx) (sg : Scope) (g : Addr) (cdv : Value) (s : Shared) (H : Hp) (E : XK) : Cx := cxOf (L2.CX X.prog X.w) X.prog X.w X.K X.mg X.base hN "_law_heard" sg g cdv X.A X.stack s H E
section
variable {Γ : Tab} {N : List Str} {cad : Cad} {L : Nat} {sc : Scope} {fn : Str → Bool} {X : Cx} {W : WX}
/-- look() within the def that hears: the lambda's own code, from where it was made -/
theorem act_ok {W' : WX} {pins pn : List (Addr × Obj)} {xe : Value → Shared → Prop} {σ : L2.St} {H1 : Hp} {s1 : Shared} {f c' g : Addr} {scope sg : Scope} {cdv : Value} {Eg : XK} {body : Expr} {params : Arguments} {pm ctv : Value} {tb : XK → TE} {L2 : Nat} {p1 p2 : Pos}
    (I1 : Inv X pins σ H1 s1) (Ls : LamX.LamS X.env.scope scope) (hf : s1.heap.get? f = some (PySem.W.kla_obj "<lambda>" (X.env.qual ++ "<lambda>") params body scope (cloFrom X.env.cells scope.names []) pm c' ctv)) (hfn : H1 f = none) (hfr : f ∉ frs X.stack)
    (hbind : bindArgs (PySem.W.kla_fn "<lambda>" (X.env.qual ++ "<lambda>") params body scope (cloFrom X.env.cells scope.names []) pm (.ref c') ctv) ⟨[], []⟩ = pure [])
    (hr : Room (L2 + 1) (heardCx X sg g cdv s1 H1 Eg).A) (tk : Takes ((heardCx X sg g cdv s1 H1 Eg).tr pn xe) W') (hv : Vis sg "look")
    (hbody : ∀ (A : Around) (outer : List Env) (s : Shared) (H : Hp) (E : XK), A.guards = X.A.guards → Room L2 (A.deeper (LamX.lamEnv X scope s.heap.objs.size f c')) → PE (LamX.lamCx X A outer s H E scope f c') body (tb E)) :
    PE ((heardCx X sg g cdv s1 H1 Eg).tr pn xe) (.Call (.Name "look" p1) [] [] p2) (fun σz Hz Q => σz[0]? = some (some (.ref f)) ∧ Hz c' = some (LamX.CodeO c' (X.env.qual ++ "<lambda>")) ∧ tb (WE W' σz) σ Hz Q) := by
  refine ⟨fun pz sz σz Hz Q IZ ⟨hs, hco, ht⟩ => ?_⟩
  refine wpAny_Call_Name_kw (thn ((pe_var (pos := p1) (i := 0) rfl hv (by decide) (by decide)).run pz sz σz Hz (fun v H2 => v = .ref f ∧ H2 = Hz) IZ ⟨.ref f, hs, rfl, rfl⟩) fun u s2 ⟨v, H2, I2, r2, e1, e2⟩ => ?_)
  subst e1 e2
  obtain rfl : u = Value.ref f := r2
  have ub : Un (frs X.stack) [] H1 H2 s1.heap s2.heap := I2.base
  have of2 := ub.keep f _ hf hfn hfr (fun z => by cases z)
  refine PySem.W.callWith_F0 ⟨_, _, _, _, of2⟩ ?_
  obtain ⟨⟨oc, vs, t, hoc, hdc, hvc⟩, _, _⟩ := I2.hok c' _ hco
  refine wpAny_call (call_end tk I2 ?_)
  show codeAny _ _ (.call (.ref f) ⟨[], []⟩) _ _
  refine PySem.W.kla_callFunE hr.depth of2 rfl Ls.co Ls.gen rfl ⟨c', oc, vs, t, rfl, hoc, hdc, hvc⟩ ?_
  rw [hbind]
  refine wpAny_pure (wpAny_newFunctionEnv (fun y hy => (Ls.own y hy).2) (fun y hy => by cases hy) (fun h2 nsl same => ⟨I2.nolimit.fresh _ same, ?_⟩) Ls.kind)
  have kp : ∀ b o, s2.heap.get? b = some o → h2.get? b = some o := fun b o e => same.extBut b o (Nat.ne_of_lt (Heap.lt_size e)) (Heap.get?_push_of_some _ e)
  have J := LamX.lam_start2 (E := WE W' σz) (tk := s2.toks + ([] : List (Str × Value)).length) (f := f) (c' := c') I1 Ls I2.env0 hr.hd ub nsl kp
  refine PySem.W.kla_codeExpr (wpAny_mono ((hbody (heardCx X sg g cdv s1 H1 Eg).A (heardCx X sg g cdv s1 H1 Eg).stack s2 H2 (WE W' σz) rfl (hr.deeper _)).run [] _ _ _ Q J ht) (fun v s3 q => ?_) fun e s3 q => q)
  obtain ⟨w', H3, J3, rv, q⟩ := q
  exact ⟨w', H3, J3.os, J3.bare, J3.base, J3.hok, rv, q⟩
theorem u_hear {k c : Nat} {e' : E} {body : Expr} {params : Arguments} {scope : Scope} {p lp pos : Pos} (l : Lok Γ N cad L sc fn X W) (tb : TbOk Γ cad L X) (hc : Γ.cls[c]? = some "JobError") (hg : Gl X "_law_heard") (Ls : LamX.LamS X.env.scope scope) (hp : noPar params = true)
    (hbody : ∀ (L2 : Nat) (A : Around) (outer : List Env) (s : Shared) (H : Hp) (E : XK) (f c' : Addr), (∀ (k : Nat) f, Γ.fn[k]? = some f → FnI X.prog X.w X.K cad X.mg X.base L2 f) → A.guards = X.A.guards → Room L2 (A.deeper (LamX.lamEnv X scope s.heap.objs.size f c')) →
      PEU (LamX.lamCx X A outer s H E scope f c') cad (fun cls d _ H => E cls d H) body (wpE Γ e')) :
    PEU X cad W (.Call (.Name "_law_heard" p) [.Lambda params body scope lp] [] pos) (wpE Γ (.hear k c e')) := by
  obtain ⟨c0, P, TB, hcode, hmT, hu⟩ := tb.tab
  obtain ⟨L2, hL, fns⟩ := tb.fns
  obtain ⟨g, st, fd, T⟩ := tb.hrd
  have pe := noPar_eq hp
  subst pe
  have hk := l.cls c _ hc
  refine ⟨fun pins s σ H Qv I ⟨ρ, δ, α, M, Q', X', rs, rm, t, hq, hx⟩ => ?_⟩
  simp only [wpE] at t
  refine wpAny_Call_Name_kw (ld_glob I hg T.mg ?_ (by decide))
  refine PySem.W.callWith_K (h₀ := X.base) I.ok.mod.kin T.fn.kp ?_ (by rfl) (by rfl)
  show wpAny _ _ (spliced ((false, eval (.Lambda ⟨[], [], none, [], [], none, []⟩ body scope lp) X.env) :: backTo pos (starEach [] X.env))) _ _ s
  refine Calls.spliced_cons (LamX.lam_make2 I TB hcode hmT hu rm.tab rfl (Ls.has I.ok) fun f c' pm ctv H1 s1 I1 eN T1 hf hfn hfr hco => ?_)
  refine Calls.spliced_nil ⟨I1.kIn, ?_⟩
  have n1 := nx_ext (α := α) eN
  have m1 : RM (gx X cad) ρ H1 α M := rm.nx n1 (fun a ha => by
    obtain ⟨n, hn, en⟩ := List.getElem_of_mem ha
    have hl : n < M.length := by rw [← rm.len]; exact hn
    obtain ⟨o, eo, to, _⟩ := (rm.at_ n a (M[n]'hl) (by rw [List.getElem?_eq_getElem hn, en]) (List.getElem?_eq_getElem hl)).num
    rw [eo]
    exact eN a o eo to) T1
  have rs1 := rs.nx n1
  obtain ⟨oc, od, kv, doc, pm2, an, cdv, ct, osl, efd, lk, hcd⟩ := T.fn.ex
  refine wpAny_call (call_end l.tk I1 ?_)
  have hr2 : Room (L2 + 2) X.A := l.room.mono hL
  have hb := T.bi
  rw [efd] at hb lk
  refine LamX.run_ofS (N := hN) (ps := ["look"]) (us := [.ref f]) (vs := [.ref f]) (K := X.K) lk hcd T.sc hr2 I1.env0 (hb s1 [.ref f] I1.kIn rfl) (.cons rfl .nil) rfl fun hr' => ?_
  obtain ⟨l1, l2, l3, l4, l5⟩ := T.lk
  obtain ⟨p1, p2, p3, p4, p5, p6, p7, p8, p9, p10, p11, p12, p13, p14, p15, p16, p17, p18, p19, p20, p21, k1, k2, k3, j1, j2, eb, esw⟩ := T.body
  rw [eb]
  have gl : Gl ((heardCx X (defScope st) g cdv s1 H1 (WE W σ))) "JobError" := by
    unfold Gl Env.kindOf
    show (defScope st).names.lookup ("JobError" : Str) = some .globalImplicit
    unfold glB at l5
    split at l5
    · assumption
    · cases l5
  have s1k := ps_asg (X := heardCx X (defScope st) g cdv s1 H1 (WE W σ)) (pos := p7) (pe_tup (x1 := k2) (pos := p6) (pa_cons (pe_non (j := j1) (pos := p4)) (pa_cons (pe_non (j := j2) (pos := p5)) pa_nil)))
    (pg_tup (X := heardCx X (defScope st) g cdv s1 H1 (WE W σ)) (pos := p3) (k := k1) rfl (pgs_cons (pg_name (x := "caught") (pos := p1) (i := 1) T.sc.nd rfl (.inl l2) (.inl rfl)) (pgs_cons (pg_name (x := "back") (pos := p2) (i := 2) T.sc.nd rfl (.inl l3) (.inl rfl)) pgs_nil)))
    rfl (swapB_ok (env := (heardCx X (defScope st) g cdv s1 H1 (WE W σ)).env) T.sc.kind esw) rfl
  have act : ∀ (W' : WX) (pn : List (Addr × Obj)) (xe : Value → Shared → Prop), Takes ((heardCx X (defScope st) g cdv s1 H1 (WE W σ)).tr pn xe) W' →
      PSs ((heardCx X (defScope st) g cdv s1 H1 (WE W σ)).tr pn xe) [.Assign [.Name "back" p8] (.Call (.Name "look" p9) [] [] p10) p11] (tAsg (fun σz Hz Q => σz[0]? = some (some (.ref f)) ∧ Hz c' = some (LamX.CodeO c' (X.env.qual ++ "<lambda>")) ∧ up (gx X cad) (fun cls d _ H => WE W' σz cls d H) (wpE Γ e') σ Hz Q) (gName 2)) := fun W' pn xe tk =>
    pss_one (ps_asg (act_ok (L2 := L2) (tb := fun E => up (gx X cad) (fun cls d _ H => E cls d H) (wpE Γ e')) I1 Ls hf hfn hfr rfl hr' tk (.inl l1) fun A outer s H E hA hR => hbody L2 A outer s H E f c' fns hA hR)
      (pg_name (X := (heardCx X (defScope st) g cdv s1 H1 (WE W σ)).tr pn xe) (i := 2) T.sc.nd rfl (.inl l3) (.inl rfl)) rfl rfl rfl)
  have suite : ∀ (a : Addr) (pn : List (Addr × Obj)), PSs ((heardCx X (defScope st) g cdv s1 H1 (WE W σ)).suite a pn) [.Assign [.Name "caught" p13] (.Name "error" p14) p15] (tAsg (tVar 3) (gName 1)) := fun a pn =>
    pss_one (ps_asg (pe_var (X := (heardCx X (defScope st) g cdv s1 H1 (WE W σ)).suite a pn) (i := 3) rfl (.inl l4) (by decide) (by decide)) (pg_name (X := (heardCx X (defScope st) g cdv s1 H1 (WE W σ)).suite a pn) (i := 1) T.sc.nd rfl (.inl l2) (.inl rfl)) rfl rfl rfl)
  have s2k := ps_try_keep (X := heardCx X (defScope st) g cdv s1 H1 (WE W σ)) (x := "JobError") (n := "error") (np := p12) (pos := p17) (pos' := p16) (c := .ref (cad c)) (i := 3) (Wout := fun _ _ _ _ => False) rfl rfl rfl T.sc.nd rfl l4 ⟨gl, hk.dbg, .inl hk.mg⟩ takes0 (fun W' pn xe tk _ => act W' pn xe tk) suite
  have s3k := ps_ret (X := heardCx X (defScope st) g cdv s1 H1 (WE W σ)) (pos := p21) (pe_tup (x1 := k3) (pos := p20) (pa_cons (pe_var (i := 1) (x := "caught") (pos := p18) rfl (.inl l2) (by decide) (by decide)) (pa_cons (pe_var (i := 2) (x := "back") (pos := p19) rfl (.inl l3) (by decide) (by decide)) pa_nil)))
  refine ⟨_, pss_cons s1k (pss_cons s2k (pss_one s3k)), ?_⟩
  refine ⟨by rw [sizeLine_eq]; exact (by decide : 2 ≤ 16777216), fun pt hpt => ?_⟩
  refine ⟨pt, _, rfl, SqT.of upd_same, rfl, .non, _, rfl, .non, _, rfl, rfl, ?_⟩
  have nt : Nx [] α H1 α (upd H1 pt (.tup [.non, .non])) := Nx.new hpt
  have n1' := n1.trans nt
  refine ⟨rfl, by rw [upd_ne (ne_of_none hco hpt)]; exact hco, ρ, δ, α, M, _, _, rs1.nx nt, m1.new hpt, t, fun d M2 q v H2 α2 n2 r2 m2 => ?_, fun c2 d M2 q dx dv H2 α2 n2 ndx rdx hdx r2 m2 => ?_⟩
  · refine ⟨.non, rfl, v, rfl, by rw [sizeLine_eq]; exact (by decide : 2 ≤ 16777216), fun p hp => ?_⟩
    exact new_tup (xs := [.non, d]) m2 (RDs.cons rfl (RDs.cons r2 RDs.nil)) q (fun d' M' z => (hq d' M' z).nx (n1'.trans n2)) p hp
  · obtain ⟨hc2, hsub, q⟩ := q
    refine ⟨true, by rw [← hsub]; exact hk.exm c2 hc2, fun _ _ => ⟨dx, rfl, fun a na => ?_⟩, fun z => by cases z⟩
    have nw : Nx [] α2 H2 α2 (upd H2 a (ExcO (.ref (cad c2)) dx a)) := Nx.new na
    have na2 : a ∉ α2 := fun z => by obtain ⟨u, e⟩ := m2.mem z; rw [na] at e; cases e
    have na3 : a ∉ ρ := fun z => m2.rho _ z (.inl na)
    have ndxa : dx ≠ a := ne_of_none hdx na
    have ra : RD (gx X cad) ρ (upd H2 a (ExcO (.ref (cad c2)) dx a)) α2 (.exc c2 d) (.ref a) := ⟨a, dx, dv, rfl, na2, na3, upd_same, ndx, rdx, by rw [upd_ne ndxa]; exact hdx, r2.nx nw⟩
    refine ⟨.ref a, rfl, .ref a, rfl, .non, rfl, by rw [sizeLine_eq]; exact (by decide : 2 ≤ 16777216), fun p hp => ?_⟩
    exact new_tup (xs := [.exc c2 d, .non]) (m2.new na) (RDs.cons ra (RDs.cons rfl RDs.nil)) q (fun d' M' z => (hq d' M' z).nx ((n1'.trans n2).trans nw)) p hp
theorem Lok.lam (l : Lok Γ N cad L sc fn X W) {scope : Scope} (Ls : LamX.LamS X.env.scope scope) {L2 : Nat} (A : Around) (outer : List Env) (s : Shared) (H : Hp) (E : XK) (f c' : Addr) (fns : ∀ (k : Nat) f, Γ.fn[k]? = some f → FnI X.prog X.w X.K cad X.mg X.base L2 f)
    (hA : A.guards = X.A.guards) (hR : Room L2 (A.deeper (LamX.lamEnv X scope s.heap.objs.size f c'))) : Lok Γ N cad L2 scope (fun _ => false) (LamX.lamCx X A outer s H E scope f c') (fun cls d _ H => E cls d H) :=
  ⟨l.hN, rfl, fun x h => (by cases h), l.nd, rfl, Ls.kind, takes_of (X := LamX.lamCx X A outer s H E scope f c') (E₁ := fun e2 s2 => _root_.L2.CX X.prog X.w outer H s E e2 s2) rfl rfl rfl rfl, fns, hR, l.cst, l.bi, l.rp, hA.trans l.gd, l.exc, l.cls, l.ve, (fun _ h => (by cases h)), l.ats, l.ins⟩
end
end AA
/-! AA10: soundness. -/
namespace AA
open PySem PySem.Spec L2
open PyProof.Rows hiding St
section
variable {Γ : Tab} {N : List Str} {cad : Cad} {L : Nat}
theorem kw_names {pos : Pos} {env : Env} : ∀ {kws : List Keyword} {ps : List Str}, kws.map (·.arg) = ps.map some →
    (backToKw pos (keywordEach kws env)).all (·.1.isSome) = true ∧ (backToKw pos (keywordEach kws env)).filterMap (·.1) = ps ∧ (backToKw pos (keywordEach kws env)).any (·.1.isNone) = false
  | [], [], _ => ⟨rfl, rfl, rfl⟩
  | [], _ :: _, h => by cases h
  | _ :: _, [], h => by cases h
  | ⟨a, v, p⟩ :: kws, q :: ps, h => by
    injection h with h1 h2
    obtain ⟨i1, i2, i3⟩ := kw_names (pos := pos) (env := env) h2
    have h1 : a = some q := h1
    subst h1
    refine ⟨?_, ?_, ?_⟩
    · show (true && _) = true
      rw [Bool.true_and]; exact i1
    · show q :: _ = _
      congr 1
    · show (false || _) = false
      rw [Bool.false_or]; exact i3
theorem t_false {X : Cx} {W : WX} {e' : Expr} {t : TTD} (h : ∀ δ M Q Xc, ¬ t δ M Q Xc) : PTU X cad W e' t := ⟨fun pins s σ H Qv I ⟨ρ, δ, α, M, Q', X', rs, rm, t0, hq, hx⟩ => (h _ _ _ _ t0).elim⟩
noncomputable def isBoolE : Expr → Bool
  | .BoolOp .. => true | _ => false
theorem u_ifeT {X : Cx} {W : WX} {pos : Pos} {c a b : Expr} {c' a' b' : E} (hc : PTU X cad W c (wpT Γ c')) (ha : PTU X cad W a (wpT Γ a')) (hb : PTU X cad W b (wpT Γ b')) : PTU X cad W (.IfExp c a b pos) (wpT Γ (.ife c' a' b')) := by
  refine ⟨fun pins s σ H Qv I ⟨ρ, δ, α, M, Q', X', rs, rm, t, hq, hx⟩ => ?_⟩
  simp only [wpT] at t
  refine isTrue_IfExp (thn (hc.run pins s σ H (fun b H1 => if b = true then upt (gx X cad) W (wpT Γ a') σ H1 Qv else upt (gx X cad) W (wpT Γ b') σ H1 Qv) I ⟨ρ, δ, α, M, _, _, rs, rm, t, fun k M1 q H1 α1 n1 m1 => ?_, hx⟩) fun k s1 ⟨H1, I1, q1⟩ => ?_)
  · cases k with
    | false => simp only [Bool.false_eq_true, if_false] at q ⊢; exact ⟨ρ, δ, α1, M1, _, _, rs.nx n1, m1, q, fun d M' z => (hq d M' z).nx n1, fun c d M' x => (hx c d M' x).nx n1⟩
    | true => simp only [if_true] at q ⊢; exact ⟨ρ, δ, α1, M1, _, _, rs.nx n1, m1, q, fun d M' z => (hq d M' z).nx n1, fun c d M' x => (hx c d M' x).nx n1⟩
  · cases k with
    | true => exact ha.run pins s1 σ H1 Qv I1 q1
    | false => exact hb.run pins s1 σ H1 Qv I1 q1
theorem u_call' {sc : Scope} {fn : Str → Bool} {X : Cx} {W : WX} {pos p : Pos} {k : Nat} {f : Fn} {es' : List Expr} {es : Es} (l : Lok Γ N cad L sc fn X W) (hf : Γ.fn[k]? = some f) (how : f.own = none) (h2 : glB sc f.name = true) (h3 : es'.all (!starB ·) = true) (h4 : chkEs Γ N sc fn es es' = true) (ha : PAU X cad W es' (wpEs Γ es)) :
    PEU X cad W (.Call (.Name f.name p) es' [] pos) (wpE Γ (.call k es)) := by
  cases es' with
  | nil =>
    cases es with
    | nil => exact u_call0 hf how (l.fns _ _ hf) l.gd l.room l.tk (l.gl h2)
    | _ => simp [chkEs] at h4
  | cons e es' =>
    have ok := chkEs_okX h3 h4
    exact u_call hf how (l.fns _ _ hf) l.gd l.room l.tk (l.gl h2) ha (star_of (ok _ List.mem_cons_self) _ _) (noStar_any fun e he => ok e (List.mem_cons_of_mem _ he))
theorem u_bi' {sc : Scope} {fn : Str → Bool} {X : Cx} {W : WX} {pos p : Pos} {b : Bi} {es' : List Expr} {es : Es} (l : Lok Γ N cad L sc fn X W) (h2 : glB sc (biS b) = true) (h3 : es'.all (!starB ·) = true) (h5 : (!es'.isEmpty) = true) (h4 : chkEs Γ N sc fn es es' = true) (ha : PAU X cad W es' (wpEs Γ es)) :
    PEU X cad W (.Call (.Name (biS b) p) es' [] pos) (wpE Γ (.bi b es)) := by
  cases es' with
  | nil => simp at h5
  | cons e es' =>
    have ok := chkEs_okX h3 h4
    exact u_bi l.biOk l.calm l.units (l.gl h2) ha (star_of (ok _ List.mem_cons_self) _ _) (noStar_any fun e he => ok e (List.mem_cons_of_mem _ he))
theorem u_isi' {sc : Scope} {fn : Str → Bool} {X : Cx} {W : WX} {pos p p2 : Pos} {t : Ty} {y : Str} {a' : Expr} {a : E} (l : Lok Γ N cad L sc fn X W) (h2 : glB sc ("isinstance" : Str) = true) (h3 : chkTy Γ t y = true) (h5 : glB sc y = true) (h6 : chkE Γ N sc fn a a' = true) (ha : PEU X cad W a' (wpE Γ a)) :
    PEU X cad W (.Call (.Name "isinstance" p) [a', .Name y p2] [] pos) (wpE Γ (.isi a t)) := by
  have hi := l.bi "isinstance" (by decide +kernel)
  have plain : (isTy t && Str.ofString (tyS t) == y) = true → PEU X cad W (.Call (.Name "isinstance" p) [a', .Name y p2] [] pos) (wpE Γ (.isi a t)) := fun z => by
    simp only [Bool.and_eq_true, beq_iff_eq] at z
    obtain ⟨z1, z2⟩ := z
    subst z2
    exact u_isi z1 hi (l.bi _ (by cases t <;> first | decide +kernel | (simp [isTy] at z1; done))) (l.gl h2) (l.gl h5) ha (star_of (chk_okX h6) _ _)
  cases t with
  | own c =>
    have h4 : (match Γ.cls[c]? with | some x => x == y | none => false) = true := h3
    split at h4 <;> try contradiction
    rename_i x hx
    simp only [beq_iff_eq] at h4
    subst h4
    exact u_isiO l.exc (l.cls c _ hx) hi (l.gl h2) (l.gl h5) ha (star_of (chk_okX h6) _ _)
  | bi n =>
    have h7 : (n == "ValueError" && y == ("ValueError" : Str)) = true := h3
    simp only [Bool.and_eq_true, beq_iff_eq] at h7
    obtain ⟨h8, h9⟩ := h7
    subst h8 h9
    exact u_isiV l.exc l.ve hi (l.bi "ValueError" (by decide +kernel)) (l.gl h2) (l.gl h5) ha (star_of (chk_okX h6) _ _)
  | int => exact plain h3
  | bool => exact plain h3
  | str => exact plain h3
  | tuple => exact plain h3
  | list => exact plain h3
  | dict => exact plain h3
theorem chkI_okX {sc : Scope} {fn : Str → Bool} {tg : Expr} {i : I} {e' : Expr} (h : chkI Γ N sc fn tg i e' = true) (x : Value) : ∀ {env : Env}, foldedSetIterable e' env x = pure x := fun {env} => by
  refine folded_of ?_ x
  cases i with
  | seq e => exact chk_okX h
  | chr e => exact chk_okX h
  | _ => cases e' <;> first | rfl | exact absurd (show false = true from h) (by decide)
/-- targets -/
theorem each_of {sc : Scope} {fn : Str → Bool} {t : T} {e : Expr} (h : chkT N sc fn t e = true) (es : List Expr) (env : Env) : assignEach (e :: es) env = (false, assign e env) :: assignEach es env := by
  unfold chkT at h
  split at h <;> first | (cases h; done) | rfl
theorem chkTs_len : ∀ {ts : Ts} {es : List Expr} {sc : Scope} {fn : Str → Bool} {env : Env}, chkTs N sc fn ts es = true → (assignEach es env).length = lenTs ts ∧ (assignEach es env).findIdx? (·.1) = none
  | .nil, [], sc, fn, env, h => ⟨rfl, rfl⟩
  | .nil, _ :: _, sc, fn, env, h => by simp [chkTs] at h
  | .cons t ts, [], sc, fn, env, h => by simp [chkTs] at h
  | .cons t ts, e :: es, sc, fn, env, h => by
    simp only [chkTs, Bool.and_eq_true] at h
    obtain ⟨i1, i2⟩ := chkTs_len (env := env) h.2
    rw [each_of h.1]
    refine ⟨by rw [List.length_cons, i1]; rfl, ?_⟩
    rw [List.findIdx?_cons, i2]; rfl
mutual
theorem sG : (t : T) → ∀ {sc : Scope} {fn : Str → Bool} {X : Cx} {W : WX} {e' : Expr}, Lok Γ N cad L sc fn X W → chkT N sc fn t e' = true → PG X e' (upg (gx X cad) t)
  | .nm i, sc, fn, X, W, e', l, h => by
    unfold chkT at h
    split at h <;> try contradiction
    rename_i e1
    cases e1
    obtain ⟨h1, h2, h3⟩ := l.bnd h
    exact g_name (by rw [l.hN]; exact l.nd) h1 h2 h3
  | .tp ts, sc, fn, X, W, e', l, h => by
    unfold chkT at h
    split at h <;> try contradiction
    rename_i e1
    cases e1
    exact g_tup l.calm (sGs ts l h) (chkTs_len h).1 (chkTs_len h).2 fun ds δ δ' e => bindTs_len ts ds δ δ' e
theorem sGs : (ts : Ts) → ∀ {sc : Scope} {fn : Str → Bool} {X : Cx} {W : WX} {es' : List Expr}, Lok Γ N cad L sc fn X W → chkTs N sc fn ts es' = true → PGs X es' (upgs (gx X cad) ts)
  | .nil, sc, fn, X, W, es', l, h => by
    unfold chkTs at h
    split at h <;> try contradiction
    exact gs_nil
  | .cons t ts, sc, fn, X, W, es', l, h => by
    unfold chkTs at h
    split at h <;> try contradiction
    rename_i e1
    cases e1
    simp only [Bool.and_eq_true] at h
    exact gs_cons (sG t l h.1) (sGs ts l h.2) (by rw [each_of h.1]; rfl)
end
theorem isZ_of {a : E} (h : isZ a = true) : a = .int 0 := by
  cases a <;> first
    | (simp only [isZ, beq_iff_eq] at h; subst h; rfl)
    | cases h
theorem isNil_of {a : Es} (h : isNil a = true) : a = .nil := by
  cases a <;> first
    | rfl
    | cases h
theorem chkEs_nil {sc : Scope} {fn : Str → Bool} {es : Es} (h : chkEs Γ N sc fn es [] = true) : es = .nil := by
  cases es with
  | nil => rfl
  | cons _ _ => simp [chkEs] at h
  | star _ _ => simp [chkEs] at h
theorem u_mcall' {sc : Scope} {fn : Str → Bool} {X : Cx} {W : WX} {pos ap : Pos} {k : Nat} {m : Str} {o : Expr} {o' : E} {es' : List Expr} {es : Es} (l : Lok Γ N cad L sc fn X W) (h1 : ownB Γ k .meth m = true) (h2 : lineB ap pos = true) (h3 : okS o = true) (h4 : es'.all (!starB ·) = true) (h5 : decide (es'.length < 30) = true)
    (ho : PEU X cad W o (wpE Γ o')) (h6 : chkEs Γ N sc fn es es' = true) (ha : PAU X cad W es' (wpEs Γ es)) : PEU X cad W (.Call (.Attribute o m ap) es' [] pos) (wpE Γ (.mcall k o' es)) := by
  obtain ⟨f, c, hf, how⟩ := ownB_of h1
  cases es' with
  | nil =>
    have e := chkEs_nil h6
    subst e
    exact u_mcall0 hf how (l.fns _ _ hf) l.gd l.room l.tk ho (base_of h3) h2
  | cons e es' =>
    have ok := chkEs_okX h4 h6
    exact u_mcall hf how (l.fns _ _ hf) l.gd l.room l.tk ho ha (base_of h3) (by simpa using h5) h2 (star_of (ok _ List.mem_cons_self) _ _) (noStar_any fun e he => ok e (List.mem_cons_of_mem _ he))
theorem u_new' {sc : Scope} {fn : Str → Bool} {X : Cx} {W : WX} {pos p : Pos} {k : Nat} {x : Str} {es' : List Expr} {es : Es} (l : Lok Γ N cad L sc fn X W) (h1 : newB Γ k x = true) (h2 : glB sc x = true) (h4 : es'.all (!starB ·) = true)
    (h6 : chkEs Γ N sc fn es es' = true) (ha : PAU X cad W es' (wpEs Γ es)) : PEU X cad W (.Call (.Name x p) es' [] pos) (wpE Γ (.new k es)) := by
  obtain ⟨f, c, m, hf, hx, how⟩ := newB_of h1
  subst hx
  have ok := chkEs_okX h4 h6
  refine u_new hf how (l.fns _ _ hf) l.gd l.room l.tk (l.gl h2) ha (fun e r z => ?_) (fun e r z => ?_) fun z => ?_
  · subst z; exact star_of (ok _ List.mem_cons_self) _ _
  · subst z; exact noStar_any fun e he => ok e (List.mem_cons_of_mem _ he)
  · subst z; exact chkEs_nil h6
/-- what is to be shown, by a short name -/
noncomputable def P_sE (Γ : Tab) (N : List Str) (cad : Cad) (e : E) : Prop := ∀ {L : Nat} {sc : Scope} {fn : Str → Bool} {X : Cx} {W : WX} {e' : Expr}, Lok Γ N cad L sc fn X W → chkE Γ N sc fn e e' = true → PEU X cad W e' (wpE Γ e)
/-- what is to be shown, by a short name -/
noncomputable def P_sT (Γ : Tab) (N : List Str) (cad : Cad) (e : E) : Prop := ∀ {L : Nat} {sc : Scope} {fn : Str → Bool} {X : Cx} {W : WX} {e' : Expr}, Lok Γ N cad L sc fn X W → chkE Γ N sc fn e e' = true → PTU X cad W e' (wpT Γ e)
/-- what is to be shown, by a short name -/
noncomputable def P_sW (Γ : Tab) (N : List Str) (cad : Cad) (e : E) : Prop := ∀ {L : Nat} {sc : Scope} {fn : Str → Bool} {X : Cx} {W : WX} {e' : Expr}, Lok Γ N cad L sc fn X W → chkE Γ N sc fn e e' = true → isBoolE e' = true → PWU X cad W e' (wpT Γ e)
/-- what is to be shown, by a short name -/
noncomputable def P_sEs (Γ : Tab) (N : List Str) (cad : Cad) (es : Es) : Prop := ∀ {L : Nat} {sc : Scope} {fn : Str → Bool} {X : Cx} {W : WX} {es' : List Expr}, Lok Γ N cad L sc fn X W → chkEs Γ N sc fn es es' = true → PAU X cad W es' (wpEs Γ es)
/-- what is to be shown, by a short name -/
noncomputable def P_sKs (Γ : Tab) (N : List Str) (cad : Cad) (es : Es) : Prop := ∀ {L : Nat} {sc : Scope} {fn : Str → Bool} {X : Cx} {W : WX} {es' : List Keyword}, Lok Γ N cad L sc fn X W → chkKs Γ N sc fn es es' = true → PKU X cad W es' (wpEs Γ es)
/-- what is to be shown, by a short name -/
noncomputable def P_sO (Γ : Tab) (N : List Str) (cad : Cad) (o : Op) : Prop := ∀ {L : Nat} {sc : Scope} {fn : Str → Bool} {X : Cx} {W : WX} {o' : Option Expr}, Lok Γ N cad L sc fn X W → chkO Γ N sc fn o o' = true → PO X o' (upo (gx X cad) W (wpO Γ o))
/-- what is to be shown, by a short name -/
noncomputable def P_sC (Γ : Tab) (N : List Str) (cad : Cad) (o : Op) : Prop := ∀ {L : Nat} {sc : Scope} {fn : Str → Bool} {X : Cx} {W : WX} {o' : List Expr}, Lok Γ N cad L sc fn X W → chkC Γ N sc fn o o' = true → PTs X o' (upt (gx X cad) W (wpC Γ o))
/-- what is to be shown, by a short name -/
noncomputable def P_sI (Γ : Tab) (N : List Str) (cad : Cad) (i : I) : Prop := ∀ {L : Nat} {sc : Scope} {fn : Str → Bool} {X : Cx} {W : WX} {tg i' : Expr}, Lok Γ N cad L sc fn X W → chkI Γ N sc fn tg i i' = true → PIU X cad W tg i' (wpI Γ i)
mutual
theorem sE : (e : E) → P_sE Γ N cad e
  | .nop => fun l h => ⟨fun pins s σ H Qv I ⟨ρ, δ, α, M, Q', X', rs, rm, t, hq, hx⟩ => by simp only [wpE] at t⟩
  | .var i => by
    rename_i L sc fn X W e'
    intro l h
    conv at h => lhs; whnf
    split at h <;> try contradiction
    simp only [Bool.and_eq_true, beq_iff_eq, Bool.not_eq_true'] at h
    exact u_var (by rw [l.hN]; exact h.1.1.1) (l.vis h.1.1.2) h.1.2 h.2
  | .non => by
    rename_i L sc fn X W e'
    intro l h
    conv at h => lhs; whnf
    iterate 2 (split at h <;> try contradiction)
    simpa only [wpE] using u_con (Γ := Γ) (W := W) (cad := cad) (d := .non) pe_non fun _ _ _ => rfl
  | .bl b => by
    rename_i L sc fn X W e'
    intro l h
    conv at h => lhs; whnf
    iterate 2 (split at h <;> try contradiction)
    simp only [beq_iff_eq] at h
    subst h
    simpa only [wpE] using u_con (Γ := Γ) (W := W) (cad := cad) (d := .bl b) pe_bl fun _ _ _ => rfl
  | .int b => by
    rename_i L sc fn X W e'
    intro l h
    conv at h => lhs; whnf
    iterate 2 (split at h <;> try contradiction)
    simp only [beq_iff_eq] at h
    subst h
    simpa only [wpE] using u_con (Γ := Γ) (W := W) (cad := cad) (d := .int b) pe_int fun _ _ _ => rfl
  | .str b => by
    rename_i L sc fn X W e'
    intro l h
    conv at h => lhs; whnf
    iterate 2 (split at h <;> try contradiction)
    simp only [beq_iff_eq] at h
    subst h
    simpa only [wpE] using u_con (Γ := Γ) (W := W) (cad := cad) (d := .str b) pe_str fun _ _ _ => rfl
  | .cst k => by
    rename_i L sc fn X W e'
    intro l h
    conv at h => lhs; whnf
    split at h <;> try contradiction
    simp only [Bool.and_eq_true] at h
    obtain ⟨h1, h2⟩ := h
    split at h1 <;> try contradiction
    rename_i c hc
    simp only [beq_iff_eq] at h1
    subst h1
    obtain ⟨hd, v, u, hm, r, rd⟩ := l.cst k c hc
    refine (u_con (Γ := Γ) (W := W) (cad := cad) (pe_glob (l.gl h2) hm r hd) rd).mono fun σ H Qv ⟨ρ, δ, α, M, Q', X', rs, rm, t, hq, hx⟩ => ⟨ρ, δ, α, M, Q', X', rs, rm, ?_, hq, hx⟩
    simpa only [wpE, cstD, hc] using t
  | .bin op a b => by
    rename_i L sc fn X W e'
    intro l h
    conv at h => lhs; whnf
    split at h <;> try contradiction
    simp only [Bool.and_eq_true, beq_iff_eq] at h
    obtain ⟨⟨h1, h2⟩, h3⟩ := h
    subst h1
    exact u_bin (sE a l h2) (sE b l h3)
  | .neg a => by
    rename_i L sc fn X W e'
    intro l h
    conv at h => lhs; whnf
    iterate 2 (split at h <;> try contradiction)
    exact u_neg (sE a l h)
  | .not_ a => by
    rename_i L sc fn X W e'
    intro l h
    conv at h => lhs; whnf
    iterate 2 (split at h <;> try contradiction)
    exact u_not (sE a l h)
  | .and_ a b => by
    rename_i L sc fn X W e'
    intro l h
    conv at h => lhs; whnf
    split at h <;> try contradiction
    · simp only [Bool.and_eq_true] at h
      exact u_and (sE a l h.1) (pe_one (sE b l h.2))
    · simp only [Bool.and_eq_true] at h
      exact u_and (sE a l h.1) (sE b l h.2)
  | .or_ a b => by
    rename_i L sc fn X W e'
    intro l h
    conv at h => lhs; whnf
    split at h <;> try contradiction
    · simp only [Bool.and_eq_true] at h
      exact u_or (sE a l h.1) (pe_one (sE b l h.2))
    · simp only [Bool.and_eq_true] at h
      exact u_or (sE a l h.1) (sE b l h.2)
  | .ife c a b => by
    rename_i L sc fn X W e'
    intro l h
    conv at h => lhs; whnf
    split at h <;> try contradiction
    simp only [Bool.and_eq_true] at h
    exact u_ife (sT c l h.1.1) (sE a l h.1.2) (sE b l h.2)
  | .cmp op a b => by
    rename_i L sc fn X W e'
    intro l h
    conv at h => lhs; whnf
    iterate 3 (split at h <;> try contradiction)
    simp only [Bool.and_eq_true, beq_iff_eq] at h
    obtain ⟨⟨h1, h2⟩, h3⟩ := h
    subst h1
    exact u_cmp l.units (mark_of (chk_okX h3)) (sE a l h2) (sE b l h3)
  | .chain op op' a b c => by
    rename_i L sc fn X W e'
    intro l h
    conv at h => lhs; whnf
    iterate 3 (split at h <;> try contradiction)
    simp only [Bool.and_eq_true, beq_iff_eq] at h
    obtain ⟨⟨⟨⟨h1, h2⟩, h3⟩, h4⟩, h5⟩ := h
    subst h1 h2
    exact u_chain l.units (by show behindInMarks _ _ = false; exact mark_of (chk_okX h5)) (sE a l h3) (sE b l h4) (sE c l h5)
  | .tup es => by
    rename_i L sc fn X W e'
    intro l h
    conv at h => lhs; whnf
    split at h <;> try contradiction
    exact u_tup (sEs es l h)
  | .lst m es => by
    rename_i L sc fn X W e'
    intro l h
    conv at h => lhs; whnf
    split at h <;> try contradiction
    exact u_lst (sEs es l h)
  | .idx a i => by
    rename_i L sc fn X W e'
    intro l h
    conv at h => lhs; whnf
    split at h <;> try contradiction
    simp only [Bool.and_eq_true] at h
    exact u_idx l.units (plainIx_of (chk_okX h.2)) (sE a l h.1) (sE i l h.2)
  | .slc a lo hi => by
    rename_i L sc fn X W e'
    intro l h
    conv at h => lhs; whnf
    iterate 3 (split at h <;> try contradiction)
    simp only [Bool.and_eq_true] at h
    exact u_slc (sE a l h.1.1) (sO lo l h.1.2) (sO hi l h.2)
  | .slcm a lo hi => by
    rename_i L sc fn X W e'
    intro l h
    conv at h => lhs; whnf
    iterate 3 (split at h <;> try contradiction)
    simp only [Bool.and_eq_true] at h
    exact u_slcm (sE a l h.1.1) (sO lo l h.1.2) (sO hi l h.2)
  | .call k es => by
    rename_i L sc fn X W e'
    intro l h
    conv at h => lhs; whnf
    iterate 3 (split at h <;> try contradiction)
    simp only [Bool.and_eq_true] at h
    obtain ⟨⟨⟨h1, h2⟩, h3⟩, h4⟩ := h
    split at h1 <;> try contradiction
    rename_i f hf
    simp only [Bool.and_eq_true, beq_iff_eq, Option.isNone_iff_eq_none] at h1
    obtain ⟨h1, how⟩ := h1
    subst h1
    exact u_call' l hf how h2 h3 h4 (sEs es l h4)
  | .callk k es ks => by
    rename_i L sc fn X W e'
    intro l h
    conv at h => lhs; whnf
    iterate 3 (split at h <;> try contradiction)
    simp only [Bool.and_eq_true] at h
    obtain ⟨⟨⟨h0, h1⟩, h2⟩, h4⟩ := h
    obtain rfl := isNil_of h0
    split at h1 <;> try contradiction
    rename_i f hf
    simp only [Bool.and_eq_true, beq_iff_eq, Option.isNone_iff_eq_none] at h1
    obtain ⟨⟨⟨h1, h5⟩, h6⟩, how⟩ := h1
    subst h1
    obtain ⟨i1, i2, i3⟩ := kw_names (pos := default) (env := X.env) h6
    exact u_callk hf how (l.fns _ _ hf) h5 l.gd l.room l.tk (l.gl h2) (sKs ks l h4) (kw_names h6).1 (kw_names h6).2.1 (by show (false || _) = false; rw [Bool.false_or]; exact (kw_names h6).2.2)
  | .bi b es => by
    rename_i L sc fn X W e'
    intro l h
    conv at h => lhs; whnf
    iterate 3 (split at h <;> try contradiction)
    simp only [Bool.and_eq_true, beq_iff_eq] at h
    obtain ⟨⟨⟨⟨h1, h2⟩, h3⟩, h5⟩, h4⟩ := h
    subst h1
    exact u_bi' l h2 h3 h5 h4 (sEs es l h4)
  | .isi a t => by
    rename_i L sc fn X W e'
    intro l h
    conv at h => lhs; whnf
    iterate 5 (split at h <;> try contradiction)
    simp only [Bool.and_eq_true, beq_iff_eq] at h
    obtain ⟨⟨⟨⟨h1, h2⟩, h3⟩, h5⟩, h6⟩ := h
    subst h1
    exact u_isi' l h2 h3 h5 h6 (sE a l h6)
  | .comp m own t it c e => by
    rename_i L sc fn X W e'
    intro l h
    conv at h => lhs; whnf
    split at h <;> try contradiction
    simp only [Bool.and_eq_true, beq_iff_eq] at h
    obtain ⟨⟨⟨⟨⟨⟨h1, h2⟩, h3⟩, h4⟩, h5⟩, h6⟩, h7⟩ := h
    have ok := blkOk_by h1
    refine u_comp l.calm (by rw [l.hN]; exact l.nd) (sI it l h4) (by rw [l.hN, l.hsc]; exact ok) (fun i hi => ?_) (fun s H C cl fp => sG t (l.blk h3 s H C cl fp) h5) (fun s H C cl fp => sC c (l.blk h3 s H C cl fp) h6) (fun s H C cl fp => sE e (l.blk h3 s H C cl fp) h7) (fun x => chkI_okX h4 x)
    have := List.all_eq_true.mp h2 i hi
    simpa using this
  | .app a e => by
    rename_i L sc fn X W e'
    intro l h
    conv at h => lhs; whnf
    iterate 4 (split at h <;> try contradiction)
    simp only [Bool.and_eq_true, beq_iff_eq] at h
    obtain ⟨⟨⟨⟨h1, h2⟩, h3⟩, h4⟩, h5⟩ := h
    subst h1
    exact u_app (sE a l h4) (sE e l h5) (base_of h3) (by rw [star_of (chk_okX h5)]; rfl) h2 (star_of (chk_okX h5) _ _)
  | .ext a e => by
    rename_i L sc fn X W e'
    intro l h
    conv at h => lhs; whnf
    iterate 4 (split at h <;> try contradiction)
    simp only [Bool.and_eq_true, beq_iff_eq] at h
    obtain ⟨⟨⟨⟨h1, h2⟩, h3⟩, h4⟩, h5⟩ := h
    subst h1
    exact u_ext (sE a l h4) (sE e l h5) (base_of h3) (by rw [star_of (chk_okX h5)]; rfl) h2 (star_of (chk_okX h5) _ _)
  | .lsti m a b => by
    rename_i L sc fn X W e'
    intro l h
    conv at h => lhs; whnf
    split at h <;> try contradiction
    · simp only [Bool.and_eq_true, beq_iff_eq] at h
      obtain ⟨⟨⟨⟨⟨h0, h1⟩, h2⟩, h3⟩, h4⟩, h5⟩ := h
      obtain rfl := isZ_of h0
      subst h1 h2
      exact u_lsti1 l.calm (l.gl h3) (l.bi _ (by decide +kernel)) (l.gl h4) (l.bi _ (by decide +kernel)) (sE b l h5) (star_of (chk_okX h5) _ _)
    · simp only [Bool.and_eq_true, beq_iff_eq] at h
      obtain ⟨⟨⟨⟨⟨h1, h2⟩, h3⟩, h4⟩, h5⟩, h6⟩ := h
      subst h1 h2
      exact u_lsti2 l.calm (l.gl h3) (l.bi _ (by decide +kernel)) (l.gl h4) (l.bi _ (by decide +kernel)) (sE a l h5) (sE b l h6) (star_of (chk_okX h5) _ _) (star_of (chk_okX h6) _ _)
  | .dic0 => by
    rename_i L sc fn X W e'
    intro l h
    conv at h => lhs; whnf
    iterate 3 (split at h <;> try contradiction)
    exact u_dic0
  | .rev a => by
    rename_i L sc fn X W e'
    intro l h
    conv at h => lhs; whnf
    split at h <;> try contradiction
    exact u_rev (sE a l h)
  | .lenr a b c => by
    rename_i L sc fn X W e'
    intro l h
    conv at h => lhs; whnf
    iterate 8 (split at h <;> try contradiction)
    simp only [Bool.and_eq_true, beq_iff_eq] at h
    obtain ⟨⟨⟨⟨⟨⟨h1, h2⟩, h3⟩, h4⟩, h5⟩, h6⟩, h7⟩ := h
    subst h1 h2
    exact u_lenr l.calm (l.gl h3) (l.bi _ (by decide +kernel)) (l.gl h4) (l.bi _ (by decide +kernel)) (sE a l h5) (sE b l h6) (sE c l h7) (star_of (chk_okX h5) _ _) (star_of (chk_okX h6) _ _) (star_of (chk_okX h7) _ _)
  | .lst3 m a b c => by
    rename_i L sc fn X W e'
    intro l h
    conv at h => lhs; whnf
    iterate 8 (split at h <;> try contradiction)
    simp only [Bool.and_eq_true, beq_iff_eq] at h
    obtain ⟨⟨⟨⟨⟨⟨h1, h2⟩, h3⟩, h4⟩, h5⟩, h6⟩, h7⟩ := h
    subst h1 h2
    exact u_lst3 l.calm (l.gl h3) (l.bi _ (by decide +kernel)) (l.gl h4) (l.bi _ (by decide +kernel)) (sE a l h5) (sE b l h6) (sE c l h7) (star_of (chk_okX h5) _ _) (star_of (chk_okX h6) _ _) (star_of (chk_okX h7) _ _)
  | .fld a x => by
    rename_i L sc fn X W e'
    intro l h
    conv at h => lhs; whnf
    split at h <;> try contradiction
    simp only [Bool.and_eq_true, beq_iff_eq] at h
    obtain ⟨⟨⟨h1, h2⟩, h3⟩, h4⟩ := h
    subst h2
    subst h1
    exact u_fld l.exc (sE a l h4) (base_of h3)
  | .attr a x => by
    rename_i L sc fn X W e'
    intro l h
    conv at h => lhs; whnf
    split at h <;> try contradiction
    simp only [Bool.and_eq_true, beq_iff_eq] at h
    obtain ⟨⟨h1, h2⟩, h3⟩ := h
    subst h1
    exact u_attr l.ats (sE a l h3) (base_of h2)
  | .prop k a => by
    rename_i L sc fn X W e'
    intro l h
    conv at h => lhs; whnf
    split at h <;> try contradiction
    simp only [Bool.and_eq_true] at h
    obtain ⟨⟨h1, h2⟩, h3⟩ := h
    obtain ⟨f, c, hf, how⟩ := ownB_of h1
    exact u_prop hf how (l.fns _ _ hf) l.gd l.room (sE a l h3) (base_of h2)
  | .mcall k a es => by
    rename_i L sc fn X W e'
    intro l h
    conv at h => lhs; whnf
    iterate 3 (split at h <;> try contradiction)
    simp only [Bool.and_eq_true] at h
    obtain ⟨⟨⟨⟨⟨⟨h1, h2⟩, h3⟩, h4⟩, h5⟩, h6⟩, h7⟩ := h
    exact u_mcall' l h1 h2 h3 h4 h5 (sE a l h6) h7 (sEs es l h7)
  | .new k es => by
    rename_i L sc fn X W e'
    intro l h
    conv at h => lhs; whnf
    iterate 3 (split at h <;> try contradiction)
    simp only [Bool.and_eq_true] at h
    obtain ⟨⟨⟨h1, h2⟩, h3⟩, h4⟩ := h
    exact u_new' l h1 h2 h3 h4 (sEs es l h4)
  | .isin a c => by
    rename_i L sc fn X W e'
    intro l h
    conv at h => lhs; whnf
    iterate 5 (split at h <;> try contradiction)
    simp only [Bool.and_eq_true, beq_iff_eq] at h
    obtain ⟨⟨⟨⟨h1, h2⟩, h3⟩, h5⟩, h6⟩ := h
    subst h1
    exact u_isin (l.ins _ (List.contains_iff_mem.mp h3)) (l.bi "isinstance" (by decide +kernel)) (l.gl h2) (l.gl h5) (sE a l h6) (star_of (chk_okX h6) _ _)
  | .dget a k d => by
    rename_i L sc fn X W e'
    intro l h
    conv at h => lhs; whnf
    iterate 4 (split at h <;> try contradiction)
    simp only [Bool.and_eq_true, beq_iff_eq] at h
    obtain ⟨⟨⟨⟨⟨h1, h2⟩, h3⟩, h4⟩, h5⟩, h6⟩ := h
    subst h1
    exact u_dget (Nat.lt_of_le_of_lt (Nat.add_le_add_left (by decide) _) l.units) (sE a l h4) (sE k l h5) (sE d l h6) ⟨base_of h3, by rw [star_of (chk_okX h5), star_of (chk_okX h6)]; rfl, h2, by rw [star_of (chk_okX h5), star_of (chk_okX h6)]; rfl⟩
  | .dget1 a k => by
    rename_i L sc fn X W e'
    intro l h
    conv at h => lhs; whnf
    iterate 4 (split at h <;> try contradiction)
    simp only [Bool.and_eq_true, beq_iff_eq] at h
    obtain ⟨⟨⟨⟨h1, h2⟩, h3⟩, h4⟩, h5⟩ := h
    subst h1
    exact u_dget1 (Nat.lt_of_le_of_lt (Nat.add_le_add_left (by decide) _) l.units) (sE a l h4) (sE k l h5) ⟨base_of h3, by rw [star_of (chk_okX h5)]; rfl, h2, by rw [star_of (chk_okX h5)]; rfl⟩
  | .dnew => by
    rename_i L sc fn X W e'
    intro l h
    conv at h => lhs; whnf
    iterate 3 (split at h <;> try contradiction)
    exact u_dnew
  | .split a e => by
    rename_i L sc fn X W e'
    intro l h
    conv at h => lhs; whnf
    iterate 4 (split at h <;> try contradiction)
    simp only [Bool.and_eq_true, beq_iff_eq] at h
    obtain ⟨⟨⟨⟨h1, h2⟩, h3⟩, h4⟩, h5⟩ := h
    subst h1
    exact u_split (sE a l h4) (sE e l h5) (by rw [star_of (chk_okX h5)]; rfl) (base_of h3) h2
  | .tupr a b => by
    rename_i L sc fn X W e'
    intro l h
    conv at h => lhs; whnf
    iterate 8 (split at h <;> try contradiction)
    simp only [Bool.and_eq_true, beq_iff_eq] at h
    obtain ⟨⟨⟨⟨⟨h1, h2⟩, h3⟩, h4⟩, h5⟩, h6⟩ := h
    subst h1 h2
    exact u_tupr l.calm (l.gl h3) (l.bi _ (by decide +kernel)) (l.gl h4) (l.bi _ (by decide +kernel)) (sE a l h5) (sE b l h6) (star_of (chk_okX h5) _ _) (star_of (chk_okX h6) _ _)
  | .pop a => by
    rename_i L sc fn X W e'
    intro l h
    conv at h => lhs; whnf
    iterate 4 (split at h <;> try contradiction)
    simp only [Bool.and_eq_true, beq_iff_eq] at h
    obtain ⟨⟨⟨h1, h2⟩, h3⟩, h4⟩ := h
    subst h1
    exact u_pop (sE a l h4) (base_of h3) h2
  | .popi a e => by
    rename_i L sc fn X W e'
    intro l h
    conv at h => lhs; whnf
    iterate 4 (split at h <;> try contradiction)
    simp only [Bool.and_eq_true, beq_iff_eq] at h
    obtain ⟨⟨⟨⟨h1, h2⟩, h3⟩, h4⟩, h5⟩ := h
    subst h1
    exact u_popi (sE a l h4) (sE e l h5) (base_of h3) (by rw [star_of (chk_okX h5)]; rfl) h2 (star_of (chk_okX h5) _ _)
  | .dmk a => by
    rename_i L sc fn X W e'
    intro l h
    conv at h => lhs; whnf
    iterate 4 (split at h <;> try contradiction)
    simp only [Bool.and_eq_true, beq_iff_eq] at h
    obtain ⟨⟨⟨h1, h2⟩, h3⟩, h4⟩ := h
    subst h1
    exact u_dmk l.calm l.units (l.gl h2) (l.bi _ (by decide +kernel)) (sE a l h4) (star_of (chk_okX h4) _ _)
  | .lstm a => by
    rename_i L sc fn X W e'
    intro l h
    conv at h => lhs; whnf
    iterate 4 (split at h <;> try contradiction)
    simp only [Bool.and_eq_true, beq_iff_eq] at h
    obtain ⟨⟨⟨h1, h2⟩, h3⟩, h4⟩ := h
    subst h1
    exact u_lstm (l.gl h2) (l.bi _ (by decide +kernel)) (sE a l h4) (star_of (chk_okX h4) _ _)
  | .revm a => by
    rename_i L sc fn X W e'
    intro l h
    conv at h => lhs; whnf
    split at h <;> try contradiction
    exact u_revm (sE a l h)
  | .sset a => by
    rename_i L sc fn X W e'
    intro l h
    conv at h => lhs; whnf
    iterate 8 (split at h <;> try contradiction)
    simp only [Bool.and_eq_true, beq_iff_eq] at h
    obtain ⟨⟨⟨⟨h1, h2⟩, h3⟩, h4⟩, h5⟩ := h
    subst h1 h2
    exact u_sset l.calm (l.gl h3) (l.bi _ (by decide +kernel)) (l.gl h4) (l.bi _ (by decide +kernel)) (sE a l h5) (star_of (chk_okX h5) _ _)
  | .lenset a => by
    rename_i L sc fn X W e'
    intro l h
    conv at h => lhs; whnf
    iterate 8 (split at h <;> try contradiction)
    simp only [Bool.and_eq_true, beq_iff_eq] at h
    obtain ⟨⟨⟨⟨h1, h2⟩, h3⟩, h4⟩, h5⟩ := h
    subst h1 h2
    exact u_lenset l.calm (l.gl h3) (l.bi _ (by decide +kernel)) (l.gl h4) (l.bi _ (by decide +kernel)) (sE a l h5) (star_of (chk_okX h5) _ _)
  | .lrep a b => by
    rename_i L sc fn X W e'
    intro l h
    conv at h => lhs; whnf
    iterate 2 (split at h <;> try contradiction)
    simp only [Bool.and_eq_true] at h
    exact u_lrep (sE a l h.1) (sE b l h.2)
  | .catl m a b => by
    rename_i L sc fn X W e'
    intro l h
    conv at h => lhs; whnf
    iterate 2 (split at h <;> try contradiction)
    simp only [Bool.and_eq_true] at h
    exact u_catl (sE a l h.1) (sE b l h.2)
  | .hear k c a => by
    rename_i L sc fn X W e'
    intro l h
    conv at h => lhs; whnf
    iterate 5 (split at h <;> try contradiction)
    simp only [Bool.and_eq_true, beq_iff_eq, decide_eq_true_eq] at h
    obtain ⟨⟨⟨⟨⟨⟨⟨h1, h2⟩, h3⟩, h4⟩, h5⟩, h6⟩, h7⟩, h8⟩ := h
    subst h1
    have Ls : LamX.LamS X.env.scope _ := LamX.lamS_by (by rw [l.hsc]; exact h5)
    exact u_hear l (l.tb h6 h7) h3 (l.gl h2) Ls h4 fun L2 A outer s H E f c' fns hA hR =>
      sE a (Lok.lam l Ls A outer s H E f c' fns hA hR) h8
  | .join a e => by
    rename_i L sc fn X W e'
    intro l h
    conv at h => lhs; whnf
    iterate 4 (split at h <;> try contradiction)
    simp only [Bool.and_eq_true, beq_iff_eq] at h
    obtain ⟨⟨⟨⟨h1, h2⟩, h3⟩, h4⟩, h5⟩ := h
    subst h1
    exact u_join (sE a l h4) (sE e l h5) (star_of (chk_okX h5) _ _) (base_of h3) h2
  | .cnt a e => by
    rename_i L sc fn X W e'
    intro l h
    conv at h => lhs; whnf
    iterate 4 (split at h <;> try contradiction)
    simp only [Bool.and_eq_true, beq_iff_eq] at h
    obtain ⟨⟨⟨⟨h1, h2⟩, h3⟩, h4⟩, h5⟩ := h
    subst h1
    exact u_cnt (sE a l h4) (sE e l h5) (star_of (chk_okX h5) _ _) (base_of h3) h2
theorem sT : (e : E) → P_sT Γ N cad e
  | .and_ a b => by
    rename_i L sc fn X W e'
    intro l h
    conv at h => lhs; whnf
    split at h <;> try contradiction
    · simp only [Bool.and_eq_true] at h
      exact (u_andT (sT a l h.1) (pw_and1 (sT b l h.2))).pt
    · simp only [Bool.and_eq_true] at h
      exact (u_andT (sT a l h.1) (sW b l h.2 rfl)).pt
  | .or_ a b => by
    rename_i L sc fn X W e'
    intro l h
    conv at h => lhs; whnf
    split at h <;> try contradiction
    · simp only [Bool.and_eq_true] at h
      exact (u_orT (sT a l h.1) (pw_or1 (sT b l h.2))).pt
    · simp only [Bool.and_eq_true] at h
      exact (u_orT (sT a l h.1) (sW b l h.2 rfl)).pt
  | .not_ a => by
    rename_i L sc fn X W e'
    intro l h
    conv at h => lhs; whnf
    iterate 2 (split at h <;> try contradiction)
    exact u_notT (sT a l h)
  | .ife c a b => by
    rename_i L sc fn X W e'
    intro l h
    conv at h => lhs; whnf
    split at h <;> try contradiction
    simp only [Bool.and_eq_true] at h
    exact u_ifeT (sT c l h.1.1) (sT a l h.1.2) (sT b l h.2)
  | .cmp op a b => by
    rename_i L sc fn X W e'
    intro l h
    conv at h => lhs; whnf
    iterate 3 (split at h <;> try contradiction)
    simp only [Bool.and_eq_true, beq_iff_eq] at h
    obtain ⟨⟨h1, h2⟩, h3⟩ := h
    subst h1
    exact u_cmpT l.units (mark_of (chk_okX h3)) (sE a l h2) (sE b l h3)
  | .chain op op' a b c => by
    rename_i L sc fn X W e'
    intro l h
    conv at h => lhs; whnf
    iterate 3 (split at h <;> try contradiction)
    simp only [Bool.and_eq_true, beq_iff_eq] at h
    obtain ⟨⟨⟨⟨h1, h2⟩, h3⟩, h4⟩, h5⟩ := h
    subst h1 h2
    exact u_chainT l.units (by show behindInMarks _ _ = false; exact mark_of (chk_okX h5)) (sE a l h3) (sE b l h4) (sE c l h5)
  | .var i => by
    rename_i L sc fn X W e'
    intro l h
    conv at h => lhs; whnf
    split at h <;> try contradiction
    simp only [Bool.and_eq_true, beq_iff_eq, Bool.not_eq_true'] at h
    exact u_truth rfl (u_var (Γ := Γ) (i := i) (by rw [l.hN]; exact h.1.1.1) (l.vis h.1.1.2) h.1.2 h.2) fun δ M Q Xc h => by simpa only [wpT, wpE] using h
  | .bl b => by
    rename_i L sc fn X W e'
    intro l h
    conv at h => lhs; whnf
    iterate 2 (split at h <;> try contradiction)
    simp only [beq_iff_eq] at h
    subst h
    exact u_truth rfl (u_con (Γ := Γ) (W := W) (cad := cad) (d := .bl b) pe_bl fun _ _ _ => rfl) fun δ M Q Xc h => by simpa only [wpT, asTru, truD] using h
  | .call k es => by
    rename_i L sc fn X W e'
    intro l h
    conv at h => lhs; whnf
    iterate 3 (split at h <;> try contradiction)
    simp only [Bool.and_eq_true] at h
    obtain ⟨⟨⟨h1, h2⟩, h3⟩, h4⟩ := h
    split at h1 <;> try contradiction
    rename_i f hf
    simp only [Bool.and_eq_true, beq_iff_eq, Option.isNone_iff_eq_none] at h1
    obtain ⟨h1, how⟩ := h1
    subst h1
    exact u_truth rfl (u_call' l hf how h2 h3 h4 (sEs es l h4)) fun δ M Q Xc h => by simpa only [wpT, wpE] using h
  | .bi b es => by
    rename_i L sc fn X W e'
    intro l h
    conv at h => lhs; whnf
    iterate 3 (split at h <;> try contradiction)
    simp only [Bool.and_eq_true, beq_iff_eq] at h
    obtain ⟨⟨⟨⟨h1, h2⟩, h3⟩, h5⟩, h4⟩ := h
    subst h1
    exact u_truth rfl (u_bi' l h2 h3 h5 h4 (sEs es l h4)) fun δ M Q Xc h => by simpa only [wpT, wpE] using h
  | .isi a t => by
    rename_i L sc fn X W e'
    intro l h
    conv at h => lhs; whnf
    iterate 5 (split at h <;> try contradiction)
    simp only [Bool.and_eq_true, beq_iff_eq] at h
    obtain ⟨⟨⟨⟨h1, h2⟩, h3⟩, h5⟩, h6⟩ := h
    subst h1
    exact u_truth rfl (u_isi' l h2 h3 h5 h6 (sE a l h6)) fun δ M Q Xc h => by simpa only [wpT, wpE, asTru, truD] using h
  | .idx a i => by
    rename_i L sc fn X W e'
    intro l h
    conv at h => lhs; whnf
    split at h <;> try contradiction
    simp only [Bool.and_eq_true] at h
    exact u_truth rfl (u_idx l.units (plainIx_of (chk_okX h.2)) (sE a l h.1) (sE i l h.2)) fun δ M Q Xc h => by simpa only [wpT, wpE] using h
  | .nop => fun l h => t_false fun δ M Q Xc h => h
  | .non => fun l h => t_false fun δ M Q Xc h => h
  | .int _ => fun l h => t_false fun δ M Q Xc h => h
  | .str _ => fun l h => t_false fun δ M Q Xc h => h
  | .cst _ => fun l h => t_false fun δ M Q Xc h => h
  | .bin _ _ _ => fun l h => t_false fun δ M Q Xc h => h
  | .neg _ => fun l h => t_false fun δ M Q Xc h => h
  | .tup _ => fun l h => t_false fun δ M Q Xc h => h
  | .lst _ _ => fun l h => t_false fun δ M Q Xc h => h
  | .slc _ _ _ => fun l h => t_false fun δ M Q Xc h => h
  | .slcm _ _ _ => fun l h => t_false fun δ M Q Xc h => h
  | .callk _ _ _ => fun l h => t_false fun δ M Q Xc h => h
  | .comp _ _ _ _ _ _ => fun l h => t_false fun δ M Q Xc h => h
  | .lsti _ _ _ => fun l h => t_false fun δ M Q Xc h => h
  | .fld _ _ => fun l h => t_false fun δ M Q Xc h => h
  | .app _ _ => fun l h => t_false fun δ M Q Xc h => h
  | .ext _ _ => fun l h => t_false fun δ M Q Xc h => h
  | .attr a x => by
    rename_i L sc fn X W e'
    intro l h
    conv at h => lhs; whnf
    split at h <;> try contradiction
    simp only [Bool.and_eq_true, beq_iff_eq] at h
    obtain ⟨⟨h1, h2⟩, h3⟩ := h
    subst h1
    exact u_truth rfl (u_attr l.ats (sE a l h3) (base_of h2)) fun δ M Q Xc h => by simpa only [wpT, wpE] using h
  | .isin a c => by
    rename_i L sc fn X W e'
    intro l h
    conv at h => lhs; whnf
    iterate 5 (split at h <;> try contradiction)
    simp only [Bool.and_eq_true, beq_iff_eq] at h
    obtain ⟨⟨⟨⟨h1, h2⟩, h3⟩, h5⟩, h6⟩ := h
    subst h1
    exact u_truth rfl (u_isin (l.ins _ (List.contains_iff_mem.mp h3)) (l.bi "isinstance" (by decide +kernel)) (l.gl h2) (l.gl h5) (sE a l h6) (star_of (chk_okX h6) _ _)) fun δ M Q Xc h => by simpa only [wpT, wpE, asTru, truD] using h
  | .mcall k a es => by
    rename_i L sc fn X W e'
    intro l h
    conv at h => lhs; whnf
    iterate 3 (split at h <;> try contradiction)
    simp only [Bool.and_eq_true] at h
    obtain ⟨⟨⟨⟨⟨⟨h1, h2⟩, h3⟩, h4⟩, h5⟩, h6⟩, h7⟩ := h
    exact u_truth rfl (u_mcall' l h1 h2 h3 h4 h5 (sE a l h6) h7 (sEs es l h7)) fun δ M Q Xc h => by simpa only [wpT, wpE] using h
  | .prop _ _ => fun l h => t_false fun δ M Q Xc h => h
  | .new _ _ => fun l h => t_false fun δ M Q Xc h => h
  | .dget _ _ _ => fun l h => t_false fun δ M Q Xc h => h
  | .dget1 _ _ => fun l h => t_false fun δ M Q Xc h => h
  | .dnew => fun l h => t_false fun δ M Q Xc h => h
  | .split _ _ => fun l h => t_false fun δ M Q Xc h => h
  | .tupr _ _ => fun l h => t_false fun δ M Q Xc h => h
  | .pop _ => fun l h => t_false fun δ M Q Xc h => h
  | .popi _ _ => fun l h => t_false fun δ M Q Xc h => h
  | .dmk _ => fun l h => t_false fun δ M Q Xc h => h
  | .lstm _ => fun l h => t_false fun δ M Q Xc h => h
  | .revm _ => fun l h => t_false fun δ M Q Xc h => h
  | .sset _ => fun l h => t_false fun δ M Q Xc h => h
  | .lenset _ => fun l h => t_false fun δ M Q Xc h => h
  | .catl _ _ _ => fun l h => t_false fun δ M Q Xc h => h
  | .lrep _ _ => fun l h => t_false fun δ M Q Xc h => h
  | .dic0 => fun l h => t_false fun δ M Q Xc h => h
  | .rev _ => fun l h => t_false fun δ M Q Xc h => h
  | .lenr _ _ _ => fun l h => t_false fun δ M Q Xc h => h
  | .lst3 _ _ _ _ => fun l h => t_false fun δ M Q Xc h => h
  | .hear _ _ _ => fun l h => t_false fun δ M Q Xc h => h
  | .cnt _ _ => fun l h => t_false fun δ M Q Xc h => h
  | .join _ _ => fun l h => t_false fun δ M Q Xc h => h
theorem sW : (e : E) → P_sW Γ N cad e
  | .and_ a b => by
    rename_i L sc fn X W e'
    intro l h hb
    clear hb
    conv at h => lhs; whnf
    split at h <;> try contradiction
    · simp only [Bool.and_eq_true] at h
      exact u_andT (sT a l h.1) (pw_and1 (sT b l h.2))
    · simp only [Bool.and_eq_true] at h
      exact u_andT (sT a l h.1) (sW b l h.2 rfl)
  | .or_ a b => by
    rename_i L sc fn X W e'
    intro l h hb
    clear hb
    conv at h => lhs; whnf
    split at h <;> try contradiction
    · simp only [Bool.and_eq_true] at h
      exact u_orT (sT a l h.1) (pw_or1 (sT b l h.2))
    · simp only [Bool.and_eq_true] at h
      exact u_orT (sT a l h.1) (sW b l h.2 rfl)
  | .nop => fun l h hb => ⟨fun wh pins s σ H Qv I ⟨ρ, δ, α, M, Q', X', rs, rm, t, hq, hx⟩ => by simp only [wpT] at t⟩
  | .var _ => fun l h hb => by (conv at h => lhs; whnf); first | (cases h; done) | (split at h <;> first | contradiction | (cases h; done) | (cases hb; done))
  | .non => fun l h hb => by (conv at h => lhs; whnf); first | (cases h; done) | (split at h <;> first | contradiction | (cases h; done) | (cases hb; done))
  | .bl _ => fun l h hb => by (conv at h => lhs; whnf); first | (cases h; done) | (split at h <;> first | contradiction | (cases h; done) | (cases hb; done))
  | .int _ => fun l h hb => by (conv at h => lhs; whnf); first | (cases h; done) | (split at h <;> first | contradiction | (cases h; done) | (cases hb; done))
  | .str _ => fun l h hb => by (conv at h => lhs; whnf); first | (cases h; done) | (split at h <;> first | contradiction | (cases h; done) | (cases hb; done))
  | .cst _ => fun l h hb => by (conv at h => lhs; whnf); first | (cases h; done) | (split at h <;> first | contradiction | (cases h; done) | (cases hb; done))
  | .bin _ _ _ => fun l h hb => by (conv at h => lhs; whnf); first | (cases h; done) | (split at h <;> first | contradiction | (cases h; done) | (cases hb; done))
  | .neg _ => fun l h hb => by (conv at h => lhs; whnf); first | (cases h; done) | (split at h <;> first | contradiction | (cases h; done) | (cases hb; done))
  | .not_ _ => fun l h hb => by (conv at h => lhs; whnf); first | (cases h; done) | (split at h <;> first | contradiction | (cases h; done) | (cases hb; done))
  | .ife _ _ _ => fun l h hb => by (conv at h => lhs; whnf); first | (cases h; done) | (split at h <;> first | contradiction | (cases h; done) | (cases hb; done))
  | .cmp _ _ _ => fun l h hb => by (conv at h => lhs; whnf); first | (cases h; done) | (split at h <;> first | contradiction | (cases h; done) | (cases hb; done))
  | .chain _ _ _ _ _ => fun l h hb => by (conv at h => lhs; whnf); first | (cases h; done) | (split at h <;> first | contradiction | (cases h; done) | (cases hb; done))
  | .tup _ => fun l h hb => by (conv at h => lhs; whnf); first | (cases h; done) | (split at h <;> first | contradiction | (cases h; done) | (cases hb; done))
  | .lst _ _ => fun l h hb => by (conv at h => lhs; whnf); first | (cases h; done) | (split at h <;> first | contradiction | (cases h; done) | (cases hb; done))
  | .idx _ _ => fun l h hb => by (conv at h => lhs; whnf); first | (cases h; done) | (split at h <;> first | contradiction | (cases h; done) | (cases hb; done))
  | .slc _ _ _ => fun l h hb => by (conv at h => lhs; whnf); first | (cases h; done) | (split at h <;> first | contradiction | (cases h; done) | (cases hb; done))
  | .slcm _ _ _ => fun l h hb => by (conv at h => lhs; whnf); first | (cases h; done) | (split at h <;> first | contradiction | (cases h; done) | (cases hb; done))
  | .call _ _ => fun l h hb => by (conv at h => lhs; whnf); first | (cases h; done) | (split at h <;> first | contradiction | (cases h; done) | (cases hb; done))
  | .callk _ _ _ => fun l h hb => by (conv at h => lhs; whnf); first | (cases h; done) | (split at h <;> first | contradiction | (cases h; done) | (cases hb; done))
  | .bi _ _ => fun l h hb => by (conv at h => lhs; whnf); first | (cases h; done) | (split at h <;> first | contradiction | (cases h; done) | (cases hb; done))
  | .isi _ _ => fun l h hb => by (conv at h => lhs; whnf); first | (cases h; done) | (split at h <;> first | contradiction | (cases h; done) | (cases hb; done))
  | .comp _ _ _ _ _ _ => fun l h hb => by (conv at h => lhs; whnf); first | (cases h; done) | (split at h <;> first | contradiction | (cases h; done) | (cases hb; done))
  | .lsti _ _ _ => fun l h hb => by (conv at h => lhs; whnf); first | (cases h; done) | (split at h <;> first | contradiction | (cases h; done) | (cases hb; done))
  | .fld _ _ => fun l h hb => by (conv at h => lhs; whnf); first | (cases h; done) | (split at h <;> first | contradiction | (cases h; done) | (cases hb; done))
  | .app _ _ => fun l h hb => by (conv at h => lhs; whnf); first | (cases h; done) | (split at h <;> first | contradiction | (cases h; done) | (cases hb; done))
  | .ext _ _ => fun l h hb => by (conv at h => lhs; whnf); first | (cases h; done) | (split at h <;> first | contradiction | (cases h; done) | (cases hb; done))
  | .attr _ _ => fun l h hb => by (conv at h => lhs; whnf); first | (cases h; done) | (split at h <;> first | contradiction | (cases h; done) | (cases hb; done))
  | .prop _ _ => fun l h hb => by (conv at h => lhs; whnf); first | (cases h; done) | (split at h <;> first | contradiction | (cases h; done) | (cases hb; done))
  | .mcall _ _ _ => fun l h hb => by (conv at h => lhs; whnf); first | (cases h; done) | (split at h <;> first | contradiction | (cases h; done) | (cases hb; done))
  | .new _ _ => fun l h hb => by (conv at h => lhs; whnf); first | (cases h; done) | (split at h <;> first | contradiction | (cases h; done) | (cases hb; done))
  | .isin _ _ => fun l h hb => by (conv at h => lhs; whnf); first | (cases h; done) | (split at h <;> first | contradiction | (cases h; done) | (cases hb; done))
  | .dget _ _ _ => fun l h hb => by (conv at h => lhs; whnf); first | (cases h; done) | (split at h <;> first | contradiction | (cases h; done) | (cases hb; done))
  | .dget1 _ _ => fun l h hb => by (conv at h => lhs; whnf); first | (cases h; done) | (split at h <;> first | contradiction | (cases h; done) | (cases hb; done))
  | .dnew => fun l h hb => by (conv at h => lhs; whnf); first | (cases h; done) | (split at h <;> first | contradiction | (cases h; done) | (cases hb; done))
  | .split _ _ => fun l h hb => by (conv at h => lhs; whnf); first | (cases h; done) | (split at h <;> first | contradiction | (cases h; done) | (cases hb; done))
  | .tupr _ _ => fun l h hb => by (conv at h => lhs; whnf); first | (cases h; done) | (split at h <;> first | contradiction | (cases h; done) | (cases hb; done))
  | .pop _ => fun l h hb => by (conv at h => lhs; whnf); first | (cases h; done) | (split at h <;> first | contradiction | (cases h; done) | (cases hb; done))
  | .popi _ _ => fun l h hb => by (conv at h => lhs; whnf); first | (cases h; done) | (split at h <;> first | contradiction | (cases h; done) | (cases hb; done))
  | .cnt _ _ => fun l h hb => by (conv at h => lhs; whnf); first | (cases h; done) | (split at h <;> first | contradiction | (cases h; done) | (cases hb; done))
  | .dmk _ => fun l h hb => by (conv at h => lhs; whnf); first | (cases h; done) | (split at h <;> first | contradiction | (cases h; done) | (cases hb; done))
  | .lstm _ => fun l h hb => by (conv at h => lhs; whnf); first | (cases h; done) | (split at h <;> first | contradiction | (cases h; done) | (cases hb; done))
  | .revm _ => fun l h hb => by (conv at h => lhs; whnf); first | (cases h; done) | (split at h <;> first | contradiction | (cases h; done) | (cases hb; done))
  | .sset _ => fun l h hb => by (conv at h => lhs; whnf); first | (cases h; done) | (split at h <;> first | contradiction | (cases h; done) | (cases hb; done))
  | .lenset _ => fun l h hb => by (conv at h => lhs; whnf); first | (cases h; done) | (split at h <;> first | contradiction | (cases h; done) | (cases hb; done))
  | .catl _ _ _ => fun l h hb => by (conv at h => lhs; whnf); first | (cases h; done) | (split at h <;> first | contradiction | (cases h; done) | (cases hb; done))
  | .lrep _ _ => fun l h hb => by (conv at h => lhs; whnf); first | (cases h; done) | (split at h <;> first | contradiction | (cases h; done) | (cases hb; done))
  | .dic0 => fun l h hb => by (conv at h => lhs; whnf); first | (cases h; done) | (split at h <;> first | contradiction | (cases h; done) | (cases hb; done))
  | .rev _ => fun l h hb => by (conv at h => lhs; whnf); first | (cases h; done) | (split at h <;> first | contradiction | (cases h; done) | (cases hb; done))
  | .lenr _ _ _ => fun l h hb => by (conv at h => lhs; whnf); first | (cases h; done) | (split at h <;> first | contradiction | (cases h; done) | (cases hb; done))
  | .lst3 _ _ _ _ => fun l h hb => by (conv at h => lhs; whnf); first | (cases h; done) | (split at h <;> first | contradiction | (cases h; done) | (cases hb; done))
  | .hear _ _ _ => fun l h hb => by (conv at h => lhs; whnf); first | (cases h; done) | (split at h <;> first | contradiction | (cases h; done) | (cases hb; done))
  | .join _ _ => fun l h hb => by (conv at h => lhs; whnf); first | (cases h; done) | (split at h <;> first | contradiction | (cases h; done) | (cases hb; done))
theorem sEs : (es : Es) → P_sEs Γ N cad es
  | .nil => by
    rename_i L sc fn X W es'
    intro l h
    unfold chkEs at h
    split at h <;> try contradiction
    exact a_nil
  | .cons e es => by
    rename_i L sc fn X W es'
    intro l h
    unfold chkEs at h
    split at h <;> try contradiction
    rename_i e1
    cases e1
    simp only [Bool.and_eq_true] at h
    exact a_cons (star_of (chk_okX h.1) _ _) (sE e l h.1) (sEs es l h.2)
  | .star e es => by
    rename_i L sc fn X W es'
    intro l h
    unfold chkEs at h
    split at h <;> try contradiction
    rename_i e1
    cases e1
    simp only [Bool.and_eq_true] at h
    exact a_star (sE e l h.1) (sEs es l h.2)
theorem sKs : (es : Es) → P_sKs Γ N cad es
  | .nil => by
    rename_i L sc fn X W es'
    intro l h
    unfold chkKs at h
    split at h <;> try contradiction
    exact k_nil
  | .cons e es => by
    rename_i L sc fn X W es'
    intro l h
    unfold chkKs at h
    split at h <;> try contradiction
    rename_i e1
    cases e1
    simp only [Bool.and_eq_true] at h
    exact k_cons (sE e l h.1) (sKs es l h.2)
  | .star e es => by
    rename_i L sc fn X W es'
    intro l h
    unfold chkKs at h
    cases h
theorem sO : (o : Op) → P_sO Γ N cad o
  | .no => by
    rename_i L sc fn X W o'
    intro l h
    unfold chkO at h
    split at h <;> try contradiction
    exact o_none
  | .so e => by
    rename_i L sc fn X W o'
    intro l h
    unfold chkO at h
    split at h <;> try contradiction
    rename_i e1
    cases e1
    exact o_some (sE e l h)
theorem sC : (o : Op) → P_sC Γ N cad o
  | .no => by
    rename_i L sc fn X W o'
    intro l h
    unfold chkC at h
    split at h <;> try contradiction
    exact ts_nil
  | .so e => by
    rename_i L sc fn X W o'
    intro l h
    unfold chkC at h
    split at h <;> try contradiction
    rename_i e1
    cases e1
    exact ts_one (sT e l h)
theorem sI : (i : I) → P_sI Γ N cad i
  | .seq e => by
    rename_i L sc fn X W tg i'
    intro l h
    conv at h => lhs; whnf
    exact i_seq (sE e l h)
  | .rng1 a => by
    rename_i L sc fn X W tg i'
    intro l h
    conv at h => lhs; whnf
    iterate 4 (split at h <;> try contradiction)
    simp only [Bool.and_eq_true, beq_iff_eq] at h
    obtain ⟨⟨h1, h2⟩, h3⟩ := h
    subst h1
    exact i_rng1 (l.gl h2) (l.bi _ (by decide +kernel)) (sE a l h3) (star_of (chk_okX h3) _ _)
  | .rng2 a b => by
    rename_i L sc fn X W tg i'
    intro l h
    conv at h => lhs; whnf
    iterate 4 (split at h <;> try contradiction)
    simp only [Bool.and_eq_true, beq_iff_eq] at h
    obtain ⟨⟨⟨h1, h2⟩, h3⟩, h4⟩ := h
    subst h1
    exact i_rng2 (l.gl h2) (l.bi _ (by decide +kernel)) (sE a l h3) (sE b l h4) (by rw [star_of (chk_okX h3), star_of (chk_okX h4)]; rfl) (star_of (chk_okX h4) _ _)
  | .rng3 a b c => by
    rename_i L sc fn X W tg i'
    intro l h
    conv at h => lhs; whnf
    iterate 4 (split at h <;> try contradiction)
    simp only [Bool.and_eq_true, beq_iff_eq] at h
    obtain ⟨⟨⟨⟨h1, h2⟩, h3⟩, h4⟩, h5⟩ := h
    subst h1
    exact i_rng3 (l.gl h2) (l.bi _ (by decide +kernel)) (sE a l h3) (sE b l h4) (sE c l h5) (star_of (chk_okX h3) _ _) (star_of (chk_okX h4) _ _) (star_of (chk_okX h5) _ _)
  | .chr e => by
    rename_i L sc fn X W tg i'
    intro l h
    conv at h => lhs; whnf
    exact i_chr (sE e l h)
  | .enum a => by
    rename_i L sc fn X W tg i'
    intro l h
    conv at h => lhs; whnf
    iterate 4 (split at h <;> try contradiction)
    simp only [Bool.and_eq_true, beq_iff_eq] at h
    obtain ⟨⟨⟨h1, h2⟩, h3⟩, h4⟩ := h
    subst h1
    exact i_enum (by cases tg <;> first | exact ⟨_, _, _, rfl⟩ | cases h3) (l.gl h2) (l.bi _ (by decide +kernel)) (sE a l h4) (star_of (chk_okX h4) _ _)
  | .zip a b => by
    rename_i L sc fn X W tg i'
    intro l h
    conv at h => lhs; whnf
    iterate 4 (split at h <;> try contradiction)
    simp only [Bool.and_eq_true, beq_iff_eq] at h
    obtain ⟨⟨⟨⟨h1, h2⟩, h3⟩, h4⟩, h5⟩ := h
    subst h1
    exact i_zip (by cases tg <;> first | exact ⟨_, _, _, rfl⟩ | cases h3) (l.gl h2) (l.bi _ (by decide +kernel)) (sE a l h4) (sE b l h5) (star_of (chk_okX h4) _ _) (star_of (chk_okX h5) _ _)
end
end
end AA
/-! AA11: soundness of statements; a def by its body. -/
namespace AA
open PySem PySem.Spec L2
open PyProof.Rows hiding St
structure LokS (Γ : Tab) (N : List Str) (cad : Cad) (L : Nat) (sc : Scope) (fn : Str → Bool) (X : Cx) (W : WX) : Prop where
  l : Lok Γ N cad L sc fn X W
  stk : X.stack = X.env :: X.outer
  frm : X.env.frame = some X.env.locals
  exn : X.ex = []
  pas : PassesOwn (model X.prog X.w) X.A X.env X.xe
  make : ∀ (c : Nat) x, Γ.cls[c]? = some x → ∀ (pn : List (Addr × Obj)) (xe : Value → Shared → Prop), MkOk (X.tr pn xe) (cad c) x
section
variable {Γ : Tab} {N : List Str} {cad : Cad} {L : Nat}
theorem LokS.tr {sc : Scope} {fn : Str → Bool} {X : Cx} {W W' : WX} (k : LokS Γ N cad L sc fn X W) {pn : List (Addr × Obj)} {xe : Value → Shared → Prop} (tk : Takes (X.tr pn xe) W') (ps : PassesOwn (model X.prog X.w) X.A X.env xe) : LokS Γ N cad L sc fn (X.tr pn xe) W' :=
  ⟨⟨k.l.hN, k.l.hsc, k.l.hfn, k.l.nd, k.l.calm, k.l.kind, tk, k.l.fns, k.l.room, k.l.cst, k.l.bi, k.l.rp, k.l.gd, k.l.exc, k.l.cls, k.l.ve, fun h h2 => let t := k.l.tb h h2; ⟨t.tab, t.fns, t.hrd⟩, k.l.ats, k.l.ins⟩, k.stk, k.frm, k.exn, ps, fun c x e pn' xe' => k.make c x e pn' xe'⟩
theorem swSole_tup {es : List Expr} {k : Nat} {p : Pos} {v : Expr} {l : Nat} {env : Env} (hk : env.scope.kind = .function) (h : swOk env.scope (.Tuple es k p) v = true) : swapsWithSole [.Tuple es k p] v l env = pure false := swOk_ok hk h
theorem assignOne {sc : Scope} {fn : Str → Bool} {t : T} {tg : Expr} {env : Env} (h : chkT N sc fn t tg = true) : (assignEach [tg] env).map (·.2) = [assign tg env] := by
  rw [each_of h]; rfl
theorem sub_assign {o i : Expr} {p : Pos} {env : Env} (h : okX i = true) (v : Value) : assign (.Subscript o i p) env v = (do
      let ov ← holding [v] (eval o env)
      let iv ← holding [v, ov] (eval i env)
      standAt p
      holding [v, ov, iv] (setItem ov iv v)
      release [v, ov, iv] []) := by
  cases i <;> first
    | rfl
    | cases h
theorem swOk_sub {sc : Scope} {o i e : Expr} {p q : Pos} (h : swOk sc (.Subscript o i p) e = true) : swOk sc (.Subscript o i q) e = true := by
  cases e <;> first
    | rfl
    | exact h
theorem notC_sw {e : Expr} {env : Env} {l : Nat} (h : notC e = true) : swapsWith e none l env = pure false := by
  unfold swapsWith
  cases e <;> first
    | rfl
    | cases h
theorem notC_swA {e : Expr} {t : Option Expr} {env : Env} {l : Nat} (h : notC e = true) : swapsWith e t l env = pure false := by
  unfold swapsWith
  cases e <;> first
    | rfl
    | cases h
theorem attr_sw {e o : Expr} {x : Str} {p : Pos} {env : Env} {l : Nat} : swapsWith e (some (.Attribute o x p)) l env = pure false := by
  unfold swapsWith
  cases e <;> rfl
theorem notC_swS {e : Expr} {t : Expr} {env : Env} {l : Nat} (h : notC e = true) : swapsWithSole [t] e l env = pure false := notC_swA h
theorem notTup_sw {e : Expr} {es : List Expr} {k : Nat} {p : Pos} {env : Env} (h : notTup e = true) : swappedStores [.Tuple es k p] e env = pure none := by
  unfold swappedStores
  cases e <;> first
    | rfl
    | (simp [notTup] at h; done)
mutual
theorem sS : (s : S) → ∀ {sc : Scope} {fn : Str → Bool} {X : Cx} {W : WX} {s' : Stmt}, LokS Γ N cad L sc fn X W → chkS Γ N sc fn s s' = true → PSU X cad W s' (wpS Γ s)
  | .ex e, sc, fn, X, W, s', k, h => by
    conv at h => lhs; whnf
    split at h <;> try contradiction
    simp only [Bool.and_eq_true] at h
    exact s_ex (notC_sw h.1) (sE e k.l h.2)
  | .asg t e, sc, fn, X, W, s', k, h => by
    conv at h => lhs; whnf
    iterate 2 (split at h <;> try contradiction)
    simp only [Bool.and_eq_true] at h
    obtain ⟨⟨⟨h1, h2⟩, h3⟩, h4⟩ := h
    have hk : X.env.scope.kind = .function := by rw [k.l.hsc]; exact k.l.kind
    exact s_asg (sE e k.l h4) (sG t k.l h1) (swOk_ok hk (by rw [k.l.hsc]; exact h2)) (swapNone_ok hk (by rw [k.l.hsc]; exact h3)) (assignOne h1)
  | .asgl ts e, sc, fn, X, W, s', k, h => by
    conv at h => lhs; whnf
    iterate 3 (split at h <;> try contradiction)
    simp only [Bool.and_eq_true] at h
    obtain ⟨⟨⟨h1, h2⟩, h3⟩, h4⟩ := h
    have hk : X.env.scope.kind = .function := by rw [k.l.hsc]; exact k.l.kind
    exact s_asgl k.l.calm (sE e k.l h4) (sGs ts k.l h1) (chkTs_len h1).1 (chkTs_len h1).2 (fun ds δ δ' e => bindTs_len ts ds δ δ' e) (swOk_ok hk (by rw [k.l.hsc]; exact h2)) (swapNone_ok hk (by rw [k.l.hsc]; exact h3))
  | .asgc i e, sc, fn, X, W, s', k, h => by
    conv at h => lhs; whnf
    split at h <;> try contradiction
    simp only [Bool.and_eq_true] at h
    obtain ⟨⟨⟨h1, h2⟩, h3⟩, h4⟩ := h
    have hk : X.env.scope.kind = .function := by rw [k.l.hsc]; exact k.l.kind
    cases e with
    | comp m own t it c e =>
      conv at h4 => lhs; whnf
      split at h4 <;> try contradiction
      rename_i e3
      cases e3
      simp only [Bool.and_eq_true, beq_iff_eq] at h4
      obtain ⟨⟨⟨⟨⟨⟨g1, g2⟩, g3⟩, g4⟩, g5⟩, g6⟩, g7⟩ := h4
      have ok := blkOk_by g1
      obtain ⟨b1, b2, b3⟩ := k.l.bnd h3
      have h2c := h2
      simp only [swC, Bool.and_eq_true] at h2c
      have loc := k.l.loc h2c.1.1
      refine s_asgc k.l.calm (by rw [k.l.hN]; exact k.l.nd) b1 loc (swC_ok hk (by rw [k.l.hsc]; exact h2)) (sI it k.l g4) (by rw [k.l.hN, k.l.hsc]; exact ok) (fun i hi => ?_) (fun s H C cl fp => sG t (k.l.blk g3 s H C cl fp) g5) (fun s H C cl fp => sC c (k.l.blk g3 s H C cl fp) g6)
        (fun s H C cl fp => sE e (k.l.blk g3 s H C cl fp) g7) (fun x => chkI_okX g4 x)
      have := List.all_eq_true.mp g2 i hi
      simpa using this
    | _ => cases h1
  | .par i j a b, sc, fn, X, W, s', k, h => by
    conv at h => lhs; whnf
    iterate 8 (split at h <;> try contradiction)
    simp only [Bool.and_eq_true, beq_iff_eq, Bool.not_eq_true'] at h
    obtain ⟨⟨⟨⟨⟨⟨⟨⟨⟨h1, h2⟩, h3⟩, h4⟩, h5⟩, h6⟩, h7⟩, h8⟩, h9⟩, h10⟩ := h
    have hk : X.env.scope.kind = .function := by rw [k.l.hsc]; exact k.l.kind
    have s2 := star_of (chk_okX h10) [] X.env
    exact s_par k.l.calm (by rw [k.l.hN]; exact k.l.nd) (k.l.bnd h1).1 (k.l.bnd h2).1 (by simpa using h5) (k.l.loc h3) (k.l.loc h4) (a_cons (star_of (chk_okX h9) _ _) (sE a k.l h9) (a_cons s2 (sE b k.l h10) a_nil)) (swapB_ok hk (by rw [k.l.hsc]; exact h6)) (swSole_tup hk rfl)
  | .par3 i j m a b c, sc, fn, X, W, s', k, h => by
    conv at h => lhs; whnf
    iterate 9 (split at h <;> try contradiction)
    simp only [Bool.and_eq_true, beq_iff_eq, Bool.not_eq_true'] at h
    obtain ⟨⟨⟨⟨⟨⟨⟨⟨⟨⟨⟨⟨⟨⟨⟨h1, h2⟩, h3⟩, h4⟩, h5⟩, h6⟩, h7⟩, h8⟩, h9⟩, h10⟩, h11⟩, h12⟩, h13⟩, h14⟩, h15⟩, h16⟩ := h
    have hk : X.env.scope.kind = .function := by rw [k.l.hsc]; exact k.l.kind
    exact s_par3 k.l.calm (by rw [k.l.hN]; exact k.l.nd) (k.l.bnd h1).1 (k.l.bnd h2).1 (k.l.bnd h3).1 (by simpa using h7) (by simpa using h8) (by simpa using h9) (k.l.loc h4) (k.l.loc h5) (k.l.loc h6)
      (a_cons (star_of (chk_okX h14) _ _) (sE a k.l h14) (a_cons (star_of (chk_okX h15) _ _) (sE b k.l h15) (a_cons (star_of (chk_okX h16) _ _) (sE c k.l h16) a_nil))) (swapB_ok hk (by rw [k.l.hsc]; exact h10)) (swSole_tup hk rfl)
  | .seti o i e, sc, fn, X, W, s', k, h => by
    conv at h => lhs; whnf
    iterate 3 (split at h <;> try contradiction)
    simp only [Bool.and_eq_true] at h
    obtain ⟨⟨⟨⟨h1, h2⟩, h3⟩, h4⟩, h5⟩ := h
    have hk : X.env.scope.kind = .function := by rw [k.l.hsc]; exact k.l.kind
    exact s_seti k.l.units (sE o k.l h3) (sE i k.l h4) (sE e k.l h5) (swOk_ok hk (by rw [k.l.hsc]; exact swOk_sub h1)) (swapNone_ok hk rfl) rfl fun v => sub_assign h2 v
  | .sub2 o i p j e, sc, fn, X, W, s', k, h => by
    conv at h => lhs; whnf
    iterate 6 (split at h <;> try contradiction)
    simp only [Bool.and_eq_true] at h
    obtain ⟨⟨⟨⟨⟨⟨⟨⟨h1, h2⟩, h3⟩, h4⟩, h5⟩, h6⟩, h7⟩, h8⟩, h9⟩ := h
    have hk : X.env.scope.kind = .function := by rw [k.l.hsc]; exact k.l.kind
    exact s_sub2 k.l.calm k.l.units (sE o k.l h5) (sE i k.l h6) (sE p k.l h7) (sE j k.l h8) (sE e k.l h9) (swOk_ok hk (by rw [k.l.hsc]; exact h1)) (swapNone_ok hk (by rw [k.l.hsc]; exact h2)) (fun v => sub_assign h3 v) (fun v => sub_assign h4 v)
  | .fldn o x j e, sc, fn, X, W, s', k, h => by
    conv at h => lhs; whnf
    iterate 6 (split at h <;> try contradiction)
    simp only [Bool.and_eq_true, beq_iff_eq] at h
    obtain ⟨⟨⟨⟨⟨h1, h2⟩, h3⟩, h4⟩, h5⟩, h6⟩ := h
    subst h1
    have hk : X.env.scope.kind = .function := by rw [k.l.hsc]; exact k.l.kind
    obtain ⟨b1, b2, b3⟩ := k.l.bnd h2
    exact s_fldn k.l.ats k.l.calm (by rw [k.l.hN]; exact k.l.nd) b1 b2 b3 (sE o k.l h5) (sE e k.l h6) (swOk_ok hk (by rw [k.l.hsc]; exact h3)) (swapNone_ok hk (by rw [k.l.hsc]; exact h4))
  | .sattr o x e, sc, fn, X, W, s', k, h => by
    conv at h => lhs; whnf
    iterate 3 (split at h <;> try contradiction)
    simp only [Bool.and_eq_true, beq_iff_eq] at h
    obtain ⟨⟨⟨⟨h1, h2⟩, h3⟩, h4⟩, h5⟩ := h
    subst h1
    exact s_sattr k.l.ats (sE o k.l h4) (sE e k.l h5) attr_sw
  | .sattrs i xs e, sc, fn, X, W, s', k, h => by
    conv at h => lhs; whnf
    iterate 3 (split at h <;> try contradiction)
    simp only [Bool.and_eq_true, Bool.not_eq_true'] at h
    obtain ⟨⟨⟨⟨h1, h2⟩, h3⟩, h4⟩, h5⟩ := h
    unfold selfB at h1
    split at h1 <;> try contradiction
    rename_i x0 hx0
    simp only [Bool.and_eq_true, Bool.not_eq_true'] at h1
    obtain ⟨⟨⟨g1, g2⟩, g3⟩, g4⟩ := h1
    exact s_sattrs k.l.ats k.l.calm (by rw [k.l.hN]; exact hx0) (k.l.vis g1) g2 g3 (by intro z; rw [z] at h2; cases h2) g4 (sE e k.l h5) (notC_swS h3) (notTup_sw h4)
  | .ret e, sc, fn, X, W, s', k, h => by
    conv at h => lhs; whnf
    iterate 2 (split at h <;> try contradiction)
    exact s_ret (sE e k.l h)
  | .retn, sc, fn, X, W, s', k, h => by
    conv at h => lhs; whnf
    iterate 2 (split at h <;> try contradiction)
    exact s_retn
  | .if_ c a b, sc, fn, X, W, s', k, h => by
    conv at h => lhs; whnf
    split at h <;> try contradiction
    simp only [Bool.and_eq_true] at h
    exact s_if (sT c k.l h.1.1) (sSs a k h.1.2) (sSs b k h.2)
  | .for_ t it b, sc, fn, X, W, s', k, h => by
    conv at h => lhs; whnf
    iterate 2 (split at h <;> try contradiction)
    simp only [Bool.and_eq_true] at h
    exact s_for k.pas k.l.calm (sI it k.l h.1.2) (sG t k.l h.1.1) (sSs b k h.2) fun x => chkI_okX h.1.2 x
  | .while_ c b, sc, fn, X, W, s', k, h => by
    conv at h => lhs; whnf
    iterate 2 (split at h <;> try contradiction)
    simp only [Bool.and_eq_true] at h
    exact s_while k.pas (sT c k.l h.1) (sSs b k h.2)
  | .rs c e, sc, fn, X, W, s', k, h => by
    conv at h => lhs; whnf
    iterate 7 (split at h <;> try contradiction)
    simp only [Bool.and_eq_true] at h
    obtain ⟨⟨h1, h2⟩, h3⟩ := h
    split at h1 <;> try contradiction
    rename_i y hy
    simp only [beq_iff_eq] at h1
    subst h1
    exact s_rs k.l.calm k.l.tk (k.make c _ hy X.pn X.xe) (k.l.gl h2) (sE e k.l h3) (star_of (chk_okX h3) _ _)
  | .try_ c i b j, sc, fn, X, W, s', k, h => by
    conv at h => lhs; whnf
    iterate 13 (split at h <;> try contradiction)
    simp only [Bool.and_eq_true, beq_iff_eq, Bool.not_eq_true'] at h
    obtain ⟨⟨⟨⟨⟨⟨⟨⟨⟨h1, h2⟩, h3⟩, h4⟩, h5⟩, h6⟩, h7⟩, h8⟩, h9⟩, h10⟩ := h
    subst h6
    split at h1 <;> try contradiction
    rename_i y hy
    simp only [beq_iff_eq] at h1
    subst h1
    obtain ⟨b1, b2, b3⟩ := k.l.bnd h5
    exact s_try k.stk k.frm k.exn (by rw [k.l.hN]; exact k.l.nd) (k.l.bnd h3).1 (k.l.loc h4) (by simpa using h7) b1 b2 b3 h8 h9 (k.l.gl h2) (k.l.cls c _ hy) k.l.tk (fun W' pn xe tk ps => sSs b (k.tr tk ps) h10) rfl rfl
  | .pass, sc, fn, X, W, s', k, h => by
    conv at h => lhs; whnf
    split at h <;> try contradiction
    · exact s_doc
    · exact s_pass
  | .brk, sc, fn, X, W, s', k, h => by
    conv at h => lhs; whnf
    split at h <;> try contradiction
    exact s_brk
  | .cont, sc, fn, X, W, s', k, h => by
    conv at h => lhs; whnf
    split at h <;> try contradiction
    exact s_cont
theorem sSs : (ss : Ss) → ∀ {sc : Scope} {fn : Str → Bool} {X : Cx} {W : WX} {ss' : List Stmt}, LokS Γ N cad L sc fn X W → chkSs Γ N sc fn ss ss' = true → PSsU X cad W ss' (wpSs Γ ss)
  | .nil, sc, fn, X, W, ss', k, h => by
    unfold chkSs at h
    split at h <;> try contradiction
    exact ss_nil
  | .cons s ss, sc, fn, X, W, ss', k, h => by
    unfold chkSs at h
    split at h <;> try contradiction
    rename_i e1
    cases e1
    simp only [Bool.and_eq_true] at h
    exact ss_cons (sS s k h.1) (sSs ss k h.2)
end
end
end AA
/-! AA12: a module's facts; a def by its check and its wish; the law's head. -/
namespace AA
open PySem PySem.Spec L2
open PyProof.Rows hiding St

/-- what a module's defs lean on, at level L -/
structure Mo (Γ : Tab) (P : Program) (w : World) (K : PySem.W.Frag) (cad : Cad) (mg : Str → Option Value) (base : Heap) (L : Nat) : Prop where
  fns : ∀ (k : Nat) f, Γ.fn[k]? = some f → FnI P w K cad mg base L f
  cst : ∀ (k : Nat) c, Γ.cst[k]? = some c → (c.1 == ("__debug__" : Str)) = false ∧ ∃ v u, mg c.1 = some u ∧ RelV v u ∧ ∀ ρ H α, RD ⟨K, cad⟩ ρ H α c.2 v
  bi : ∀ n ∈ biNames, mg n = none
  rp : Γ.rp = PyData.shown
  exc : ∀ c, c < Γ.cls.length → ExcK K (cad c)
  cls : ∀ c x, Γ.cls[c]? = some x → ClsK K mg cad Γ.cls.length Γ.sub c x
  ve : ∀ c, c < Γ.cls.length → PySem.W.kitOne K (.ref (cad c)) (.type "ValueError") = some true
  ats : AtsOk K cad Γ.ats
  ins : ∀ p ∈ Γ.ins, InsC K mg cad p.1 p.2
  make : ∀ (c : Nat) x, Γ.cls[c]? = some x → ∀ X : Cx, X.prog = P → X.w = w → X.K = K → X.mg = mg → X.base = base → Room L X.A → MkOk X (cad c) x
/-- the slots at a def's entry -/
noncomputable def dstart (N : List Str) (ds : List D) : Dst := ds.map some ++ List.replicate (N.length - ds.length) none
theorem rs_start {G : Gm} {ρ α : List Addr} {H : Hp} {N : List Str} {ds : List D} {vs : List V} (r : RDs G ρ H α ds vs) : RS G ρ H α (dstart N ds) (L2.start N vs) := by
  have hl := r.length
  refine ⟨by simp [dstart, L2.start, hl], fun i d e => ?_⟩
  unfold dstart at e
  unfold L2.start
  by_cases hi : i < ds.length
  · rw [List.getElem?_append_left (by simpa using hi), List.getElem?_map] at e
    cases q : ds[i]? with
    | none => rw [q] at e; cases e
    | some d' =>
      rw [q] at e; cases e
      obtain ⟨v, h1, h2⟩ := r.get q
      exact ⟨v, by rw [List.getElem?_append_left (by simpa [hl] using hi), List.getElem?_map, h1]; rfl, h2⟩
  · rw [List.getElem?_append_right (by simpa using hi), List.getElem?_replicate] at e
    split at e <;> cases e
/-- the ends of a def -/
noncomputable abbrev dEnds (Q : DK) (X : XD) : DE := { nx := fun _ M' => Q .non M', rt := Q, xc := fun c d _ M' => X c d M' }
/-- a def that makes lambdas -/
structure DefTb (Γ : Tab) (P : Program) (w : World) (K : PySem.W.Frag) (cad : Cad) (mg : Str → Option Value) (base : Heap) (L : Nat) (fd : FuncData) (qual : Str) : Prop where
  tab : ∃ c Pt, fd.code = .ref c ∧ LamX.TabB base mg c Pt ∧ (Pt, qual ++ ".<locals>." ++ "<lambda>") ∈ cad.tabs ∧ ∀ p ∈ cad.tabs, p.1 = Pt → p.2 = qual ++ ".<locals>." ++ "<lambda>"
  fns : ∃ L2, L2 + 2 ≤ L ∧ ∀ (k : Nat) f, Γ.fn[k]? = some f → FnI P w K cad mg base L2 f
  hrd : ∃ g st fd, HeardTxt K mg g st fd
theorem def_ok {Γ : Tab} {P : Program} {w : World} {K : PySem.W.Frag} {cad : Cad} {mg : Str → Option Value} {base : Heap} {L : Nat} {f : Fn} {nm qual : Str} {st : Stmt} {fa : Addr} {fd : FuncData} {N : List Str} {body : Ss}
    (m : Mo Γ P w K cad mg base L) (Fu : Fun K nm qual st fa fd) (S : FnScope N f.par (defScope st)) (chk : chkSs Γ N (defScope st) (fun _ => true) body (defBody st) = true)
    (hsp : ∀ ds M Q X, ds.length = f.par.length → f.sp ds M Q X → wpSs Γ body (dEnds Q X) (dstart N ds) M) (htb : Γ.lams.contains N = true → DefTb Γ P w K cad mg base L fd qual) : FnG P w K mg base (L + 1) fa fd f.par (lsp ⟨K, cad⟩ f) := by
  refine fnG_of Fu S (fun vs H Q E h => lsp_len h) fun cdv A callers s H vs Q E ecd gd hr h => ?_
  have lok : Lok Γ N cad L (defScope st) (fun _ => true) (cxOf (L2.CX P w) P w K mg base N qual (defScope st) fa cdv A callers s H E) (fun cls d _ H => E cls d H) :=
    ⟨rfl, rfl, fun _ _ => rfl, S.nd, rfl, S.kind, takes_of rfl rfl rfl rfl, m.fns, hr, m.cst, m.bi, m.rp, gd, m.exc, m.cls, m.ve, fun h1 _ => by
      have t := htb h1
      obtain ⟨c, Pt, e1, e2, e3, e4⟩ := t.tab
      exact ⟨⟨c, Pt, e2, ecd.symm.trans e1, e3, e4⟩, t.fns, t.hrd⟩, m.ats, m.ins⟩
  have k : LokS Γ N cad L (defScope st) (fun _ => true) (cxOf (L2.CX P w) P w K mg base N qual (defScope st) fa cdv A callers s H E) (fun cls d _ H => E cls d H) :=
    ⟨lok, rfl, rfl, rfl, passes_of rfl, fun c x e pn xe => m.make c x e _ rfl rfl rfl rfl rfl hr⟩
  obtain ⟨ds, ρ, α, M, Q', X', r, rm, hl, sp, hq, hx⟩ := h
  refine ⟨_, sSs body k chk, ρ, dstart N ds, α, M, dEnds Q' X', rs_start r, rm, hsp ds M Q' X' hl sp, ⟨fun δ M1 q σ' H' α' n1 r1 m1 => hq _ _ q _ _ _ n1 rfl m1, fun d M1 q => hq d M1 q, fun _ _ z => z.elim, fun _ _ z => z.elim, fun c d δ M1 q dx dv σ' H' α' n1 a b e r1 _ m1 => hx c d M1 q dx dv H' α' n1 a b e r1 m1⟩⟩

/-! ### the law's head -/
/-- nothing is tracked at the start but the script and the tables of code objects -/
noncomputable def OnlyT (cs : List (Addr × Addr)) (H : Hp) : Prop := ∀ p ∈ cs, H p.2 = some (.tbl #[])
theorem lawGT {P : Program} {w : World} {K : PySem.W.Frag} {mg mb : Str → Option Value} {k : Nat} {fa a : Addr} {cs : List (Addr × Addr)} {fd : FuncData} {x : Str} {sp : Sp} {s1 : Shared} {us : List Value} {ns : List Int}
    (KX : K.In s1.heap) (gl : s1.heap.Ns mainGlobals mg) (bl : s1.heap.Ns builtinsNs mb) (bb : ∀ x : Str, x ≠ "__name__" → mb x = bootBuiltins x) (lim : s1.heap.NoLimit) (gens : s1.gens = #[])
    (tabs : ∀ p ∈ cs, PySem.W.CodeHd s1.heap p.1 p.2 ∧ s1.heap.get? p.2 = some (PySem.W.tabObj #[]) ∧ K.lookup p.2 = none)
    (mainB : cs ≠ [] → ∃ (m : Addr) (o : Obj), mg "__builtins__" = some (.ref m) ∧ m ≠ builtinsNs ∧ s1.heap.get? m = some o ∧ o.cls = .type "module" ∧ o.dict = some builtinsNs ∧ o.data = .plain)
    (there : s1.heap.get? a = some { cls := .type "list", data := .seq us.toArray }) (arei : IntsAre us ns) (short : ns.length ≤ sizeLine) (hr : Room k callerA)
    (F : ∀ base : Heap, K.In base → base.Ns mainGlobals mg → (∀ p ∈ cs, LamX.TabB base mg p.1 p.2) → FnG P w K mg base k fa fd [x] sp) (hb : ∀ (s : Shared) (u : Value), BindsTo s fd ⟨[u], []⟩ [(x, u)])
    (hsp : ∀ H : Hp, OnlyT cs H → SqL K H a (ns.map V.int) → sp [.ref a] H (fun v _ => v = .bl true) fun _ _ _ => False)
    (noX : ∀ H e s', L2.CX P w [] H s1 (fun _ _ _ => False) e s' → False) :
    codeAny (model P w) callerA (.call (.ref fa) ⟨[.ref a], []⟩) (fun r s' => r = .ok (.ret (.bool true)) ∧ OldK s1.heap s'.heap ∧ s'.os = s1.os ∧ AllBare s'.gens) s1 := by
  have rv : Vals (ns.map V.int) us := vals_ints arei
  have lu : us.length = ns.length := by rw [← rv.length, List.length_map]
  have none_in : ∀ b : Addr, b ∉ ([] : List Addr) := fun b z => nomatch z
  have tabAt : ∀ b, b ∈ cs.map (·.2) → s1.heap.get? b = some (PySem.W.tabObj #[]) := fun b z => by
    obtain ⟨p, hp, rfl⟩ := List.mem_map.mp z
    exact (tabs p hp).2.1
  have inT : ∀ p ∈ cs, p.2 ∈ cs.map (·.2) := fun p hp => List.mem_map.mpr ⟨p, hp, rfl⟩
  have notA : a ∉ cs.map (·.2) := fun z => by
    have q := (tabAt a z).symm.trans there
    have q2 : (Data.fields #[] : Data) = .seq us.toArray := congrArg Obj.data (Option.some.inj q)
    cases q2
  have main : ∀ H : Hp, OnlyT cs H → (∀ b, H b = none ∨ b ∈ cs.map (·.2) ∨ ∃ ob xs, H b = some (.frz ob (.lst xs))) → SqL K H a (ns.map V.int) → HOk P w H s1.heap → (∀ b, H b ≠ none → b = a ∧ K.lookup a = none ∨ b ∈ cs.map (·.2)) →
      codeAny (model P w) callerA (.call (.ref fa) ⟨[.ref a], []⟩) (fun r s' => r = .ok (.ret (.bool true)) ∧ OldK s1.heap s'.heap ∧ s'.os = s1.os ∧ AllBare s'.gens) s1 := by
    intro H onT only sq hok tracked
    have un : ∀ b o, s1.heap.get? b = some o → (b = a → False) → (b ∈ cs.map (·.2) → False) → H b = none := fun b o e z1 z2 => by
      cases q : H b with
      | none => rfl
      | some u =>
        rcases tracked b (by rw [q]; exact fun z => nomatch z) with ⟨eb, _⟩ | eb
        · exact (z1 eb).elim
        · exact (z2 eb).elim
    have un2 : ∀ b o, s1.heap.get? b = some o → (∀ it n, o.data ≠ .seq it n) → o.data ≠ .fields #[] → H b = none := fun b o e d1 d2 => un b o e
      (fun z => by rw [z, there] at e; cases e; exact d1 _ _ rfl) (fun z => by rw [tabAt b z] at e; cases e; exact d2 rfl)
    have ns' : ∀ (b : Addr) (m : Str → Option Value), s1.heap.Ns b m → (hidT s1.heap H).Ns b m := fun b m ⟨o, es, ep, e, d, r⟩ => ⟨o, es, ep, hidT_get e (un2 b o e (fun it n z => by rw [d] at z; cases z) (fun z => by rw [d] at z; cases z)), d, r⟩
    have kin : K.In (hidT s1.heap H) := fun b o e => hidT_get (KX b o e) (by
      cases q : H b with
      | none => rfl
      | some u =>
        rcases tracked b (by rw [q]; exact fun z => nomatch z) with ⟨eb, kn⟩ | eb
        · rw [eb, kn] at e; cases e
        · obtain ⟨p, hp, ep⟩ := List.mem_map.mp eb
          have ep : p.2 = b := ep
          rw [← ep, (tabs p hp).2.2] at e; cases e)
    obtain ⟨mc, c1, c2⟩ := lim
    have md : Mod K mg (hidT s1.heap H) := ⟨kin, ns' _ _ gl, ⟨mb, ns' _ _ bl, bb⟩, ⟨mc, ns' _ _ c1, c2⟩⟩
    have env0 : Env0 P w K mg (hidT s1.heap H) callerA [] s1 H := ⟨rfl, md, fun b o e => of_hidT e, Nat.le_of_eq (hidT_size _ _), trivial, fun b z => absurd z (none_in b), hok, .of_eq gens⟩
    have TB : ∀ p ∈ cs, LamX.TabB (hidT s1.heap H) mg p.1 p.2 := fun p hp => by
      obtain ⟨hc, ht, _⟩ := tabs p hp
      have noG : mainGlobals ≠ p.2 := fun z => by
        obtain ⟨o, es, ep, e, d, _⟩ := gl
        rw [z, ht] at e; cases e
        cases d
      obtain ⟨o, ws, file, tf, flags, tg, inF, text, tt, e1, r1, r2, r3, rest⟩ := hc
      obtain ⟨m, om, b1, b2, b3, b4, b5, b6⟩ := mainB (fun z => by rw [z] at hp; cases hp)
      refine ⟨⟨o, ws, file, tf, flags, tg, inF, text, tt, hidT_get e1 (un2 _ _ e1 (fun it n z => by rw [r2] at z; cases z) (fun z => by rw [r2] at z; cases z; simp at r3)), r1, r2, r3, rest⟩, ?_, noG⟩
      refine ⟨m, om, b1, b2, fun z => ?_, fun z => ?_, hidT_get b3 (un2 _ _ b3 (fun it n z => by rw [b6] at z; cases z) (fun z => by rw [b6] at z; cases z)), b4, b5, b6⟩
      · obtain ⟨o2, es, ep, e, d, _⟩ := gl
        rw [z, e] at b3; cases b3
        rw [d] at b6; cases b6
      · rw [z, ht] at b3; cases b3
        cases b6
    refine codeAny_mono ((F _ kin (ns' _ _ gl) TB).run callerA [] s1 H ⟨[.ref a], []⟩ [.ref a] [.ref a] _ _ rfl hr env0 (hb s1 (.ref a)) (.cons rfl .nil) (hsp H onT sq)) fun r s2 h => ?_
    cases r with
    | error e => exact (noX H e s2 h).elim
    | ok fl =>
      cases fl with
      | next => exact h.elim
      | brk => exact h.elim
      | cont => exact h.elim
      | ret u =>
        obtain ⟨v, H2, os2, bare2, unk, hok2, r2, q2⟩ := h
        have q3 : v = .bl true := q2
        subst q3
        obtain rfl : u = Value.bool true := r2
        have keep1 : ∀ b o, b ∉ cs.map (·.2) → s1.heap.get? b = some o → s2.heap.get? b = some o := fun b o nb e => by
          rcases only b with z | z | ⟨ob, xs, z⟩
          · exact unk.keep b o e z (none_in b) (none_in b)
          · exact absurd z nb
          · obtain ⟨g1, _⟩ := hok b _ z
            obtain ⟨g2, _⟩ := hok2 b _ (unk.frzs b ob _ z)
            rw [e] at g1; cases g1
            exact g2
        have keep2 : ∀ p ∈ cs, ∃ more : Array Value, s2.heap.get? p.2 = some (PySem.W.tabObj more) := fun p hp => by
          obtain ⟨more, z⟩ := unk.tbls p.2 #[] (onT p hp)
          exact ⟨_, hok2 _ _ z⟩
        refine ⟨rfl, ⟨fun b o e => ?_, fun b o e => ?_⟩, os2, bare2⟩
        · by_cases hbt : b ∈ cs.map (·.2)
          · obtain ⟨p, hp, ep⟩ := List.mem_map.mp hbt
            have ep : p.2 = b := ep
            subst ep
            obtain ⟨more, z⟩ := keep2 p hp
            rw [tabAt _ hbt] at e; cases e
            refine .inr (.inl ⟨((tabs p hp).1.tab (tabs p hp).2.1).isCodeTable, rfl, #[], more, rfl, ?_⟩)
            rw [Array.empty_append]; exact z
          · exact .inl (keep1 b o hbt e)
        · by_cases hbt : b ∈ cs.map (·.2)
          · obtain ⟨p, hp, ep⟩ := List.mem_map.mp hbt
            have ep : p.2 = b := ep
            obtain ⟨more, z⟩ := keep2 p hp
            exact ⟨_, by rw [← ep]; exact z⟩
          · exact ⟨o, keep1 b o hbt e⟩
  cases hk : K.lookup a with
  | none =>
    have atA : ∀ b u, (if b = a then some (HO.frz { cls := .type "list", data := .seq us.toArray } (.lst (ns.map V.int))) else if b ∈ cs.map (·.2) then some (HO.tbl #[]) else none) = some u →
        b = a ∧ u = HO.frz { cls := .type "list", data := .seq us.toArray } (.lst (ns.map V.int)) ∨ b ∈ cs.map (·.2) ∧ u = .tbl #[] := fun b u e => by
      by_cases hba : b = a
      · rw [if_pos hba] at e; cases e; exact .inl ⟨hba, rfl⟩
      · rw [if_neg hba] at e
        by_cases hbt : b ∈ cs.map (·.2)
        · rw [if_pos hbt] at e; cases e; exact .inr ⟨hbt, rfl⟩
        · rw [if_neg hbt] at e; cases e
    refine main (fun b => if b = a then some (.frz { cls := .type "list", data := .seq us.toArray } (.lst (ns.map V.int))) else if b ∈ cs.map (·.2) then some (.tbl #[]) else none) (fun p hp => ?_) (fun b => ?_) (.inl (.inr ⟨{ cls := .type "list", data := .seq us.toArray }, if_pos rfl⟩)) (fun b u e => ?_) fun b hn => ?_
    · show (if p.2 = a then _ else if p.2 ∈ cs.map (·.2) then some (HO.tbl #[]) else none) = _
      rw [if_neg (fun z => notA (by rw [← z]; exact inT p hp)), if_pos (inT p hp)]
    · by_cases hba : b = a
      · exact .inr (.inr ⟨_, _, if_pos hba⟩)
      · by_cases hbt : b ∈ cs.map (·.2)
        · exact .inr (.inl hbt)
        · exact .inl (by show (if b = a then _ else _) = _; rw [if_neg hba, if_neg hbt])
    · rcases atA b u e with ⟨rfl, rfl⟩ | ⟨hbt, rfl⟩
      · exact ⟨there, by rw [List.length_map]; exact short, us, _, rv, there⟩
      · exact tabAt b hbt
    · by_cases hba : b = a
      · exact .inl ⟨hba, hk⟩
      · by_cases hbt : b ∈ cs.map (·.2)
        · exact .inr hbt
        · exact absurd (by show (if b = a then _ else _) = _; rw [if_neg hba, if_neg hbt]) hn
  | some o =>
    have e := KX a o hk
    rw [there] at e
    cases e
    refine main (fun b => if b ∈ cs.map (·.2) then some (.tbl #[]) else none) (fun p hp => if_pos (inT p hp)) (fun b => ?_) (.inr ⟨_, us.toArray, _, hk, rfl, rfl, rfl, by rw [List.size_toArray, lu]; exact short, by simpa using rv⟩) (fun b u z => ?_) fun b hn => ?_
    · by_cases hbt : b ∈ cs.map (·.2)
      · exact .inr (.inl hbt)
      · exact .inl (if_neg hbt)
    · by_cases hbt : b ∈ cs.map (·.2)
      · have z : (if b ∈ cs.map (·.2) then some (HO.tbl #[]) else none) = some u := z
        rw [if_pos hbt] at z; cases z
        exact tabAt b hbt
      · have z : (if b ∈ cs.map (·.2) then some (HO.tbl #[]) else none) = some u := z
        rw [if_neg hbt] at z; cases z
    · by_cases hbt : b ∈ cs.map (·.2)
      · exact .inr hbt
      · exact absurd (if_neg hbt) hn
/-- the script, as a datum -/
theorem lsp_script {K : PySem.W.Frag} {cad : Cad} {f : Fn} {H : Hp} {a : Addr} {ns : List Int} (hp : f.par.length = 1) (ht : LamX.Tabs cad.tabs H) (hs : SqL K H a (ns.map V.int)) (h : f.sp [.lst (ns.map D.int)] [] (fun d _ => d = .bl true) (fun _ _ _ => False)) :
    lsp ⟨K, cad⟩ f [.ref a] H (fun v _ => v = .bl true) fun _ _ _ => False := by
  have at_ : LstAt K [] H [] a (ns.map V.int) := by
    rcases hs with hs | hs
    · exact .inl ⟨List.not_mem_nil, List.not_mem_nil, hs⟩
    · exact .inr hs
  have rm : RM ⟨K, cad⟩ [] H [] [] := ⟨rfl, .nil, fun b z => (List.not_mem_nil z).elim, ht, fun n a mo z _ => by rw [List.getElem?_nil] at z; cases z⟩
  have r1 : RD ⟨K, cad⟩ [] H [] (.lst (ns.map D.int)) (.ref a) := by
    unfold RD
    exact ⟨a, ns.map V.int, rfl, at_, RDs.of_ints ns⟩
  have hl : ([D.lst (ns.map D.int)] : List D).length = f.par.length := by rw [hp]; rfl
  refine ⟨[.lst (ns.map D.int)], [], [], [], fun d _ => d = .bl true, fun _ _ _ => False, RDs.cons r1 RDs.nil, rm, hl, h, ?_, fun _ _ _ z => z.elim⟩
  intro d M' e v H' α' n r m
  subst e
  exact r
end AA
/-! AA13: an own error whose __init__ says super().__init__(value); self.value = value (as skel/42's by import, over KE's super): made. -/
namespace AA
open PySem PySem.Spec PySem.W PySem.Calls PyProof.Rows PySem.HandSPX
noncomputable def jArgs (p1 p2 : Pos) : Arguments := { posonlyargs := [], args := [{ arg := "self", annotation := none, pos := p1 }, { arg := "value", annotation := none, pos := p2 }], vararg := none, kwonlyargs := [], kw_defaults := [], kwarg := none, defaults := [] }
noncomputable def jBody (q1 q2 q3 q4 q5 q6 q7 q8 q9 q10 : Pos) : List Stmt := [.Expr (.Call (.Attribute (.Call (.Name "super" q1) [] [] q2) "__init__" q3) [.Name "value" q4] [] q5) q6, .Assign [.Attribute (.Name "self" q7) "value" q8] (.Name "value" q9) q10]
noncomputable def jScope : Scope := { kind := .function, names := [(PySem.Str.ofString "self", .local), (PySem.Str.ofString "value", .local), (PySem.Str.ofString "__class__", .free), (PySem.Str.ofString "super", .globalImplicit)], isGenerator := false, isCoroutine := false, more := [] }
abbrev veBases : List Value := [.type "ValueError", .type "Exception", .type "BaseException", .type "object"]
/-- what the written part says of the class x at C; D: the class whose __init__ it is, at fI; cc: its cell, cda: its code -/
structure JobTxt (P : Program) (K : Frag) (mg : Str → Option Value) (x : Str) (C D fI cc cda : Addr) : Prop where
  gC : mg x = some (.ref C)
  dbg : (x == ("__debug__" : Str)) = false
  cls : ∃ nm q N bs bm sn sub ab col dd k0 k1 k2 k3 k5, K.lookup C = some (excClassObj nm q C N bs bm true sn sub ab col dd k0 k1 k2 k3 k5 "ValueError.__new__") ∧ refsVE bm = true
  sa : findIn K (.ref C) "__setattr__" = some (some (.builtin "object.__setattr__"))
  nv : findIn K (.ref C) "value" = some none
  iC : findIn K (.ref C) "__init__" = some (some (.ref fI))
  tI : typeIn K (.ref fI) = some (.type "function")
  kC : keepIn K (.ref C) = true
  sb : subIn K (.ref C) (.type "BaseException") = some true
  ty : typeIn K (.ref C) = some (.type "type")
  fn : ∃ (oc : Value) (od : Option Addr) (doc pm : Value) (an : Option Addr) (ct : Value) (osl : Array (Option Value)) (p1 p2 q1 q2 q3 q4 q5 q6 q7 q8 q9 q10 : Pos), (q3.endLine == q5.line) = true ∧
    K.lookup fI = some ⟨oc, od, .func (ksFn "__init__" "JobError.__init__" (jArgs p1 p2) (jBody q1 q2 q3 q4 q5 q6 q7 q8 q9 q10) jScope .none .none doc pm an (.ref cda) ct cc), osl⟩ ∧ codeIn K (.ref cda) "JobError.__init__" = true
  code : ∃ (ccl : Value) (cdd : Option Addr) (vs : Array Value) (ccs : Array (Option Value)) (file : Str) (tf : Tok), K.lookup cda = some ⟨ccl, cdd, .fields vs, ccs⟩ ∧ vs[2]? = some (.str file tf) ∧ ((P.main.file : Str) == file) = true
  cell : ∃ (cl : Value) (cld : Option Addr) (csl : Array (Option Value)), K.lookup cc = some ⟨cl, cld, .cell (some (.ref D)), csl⟩
  isD : (clsIn K D).isSome = true
  su : mroIn K C (.ref D) = some true
  sup : mg "super" = none
  top : (P.main.scope.names.lookup ("super" : Str)).isSome = false
  opq : nsIn K cStatics "thirdparty.any" = some none
  sm : ks_superIn K C D "__init__" = some (some (.builtin "ValueError.__init__"))
  isB : subIn K (.ref C) (.type "ValueError") = some true
  qx : excInitIn K C veBases "ValueError.__new__" = true
theorem super_boot : bootBuiltins "super" = some (.type "super") := by decide +kernel
theorem one_fits (v : Value) : [v].length ≤ sizeLine := by
  rw [sizeLine_eq]
  exact (by decide : 1 ≤ 16777216)
theorem super_eq {q1 q2 q3 q4 q5 : Pos} {env : Env} (hl : (q3.endLine == q5.line) = true) : eval (.Call (.Attribute (.Call (.Name "super" q1) [] [] q2) "__init__" q3) [.Name "value" q4] [] q5) env = (do
      let ov ← attributeBase (.Call (.Name "super" q1) [] [] q2) "__init__" env (eval (.Call (.Name "super" q1) [] [] q2) env)
      standAt q3.atName
      let (f, first) ← holding [ov] (getMethod ov "__init__" (do return (← importBound (.Call (.Name "super" q1) [] [] q2) env).getD true))
      callWith q5 f first (backTo q5 (starEach [.Name "value" q4] env)) []) := by
  have hpos : methodCallPos true (.Call (.Name "super" q1) [] [] q2) env q3 q5 = pure q5 := by unfold methodCallPos; simp [hl]
  rw [arm_eval_Call]
  unfold methodCall
  have hf : methodCallForm ([Expr.Name "value" q4].length + ([] : List Keyword).length) (backTo q5 (starEach [.Name "value" q4] env)) (backToKw q5 (keywordEach [] env)) = true := rfl
  rw [hf, hpos]
  rfl
/-- what is left of a fresh exception at e -/
structure JEnd (h h' : Heap) (e C dx : Addr) (v : Value) : Prop where
  keep : ∀ b o, b ≠ e → h.get? b = some o → h'.get? b = some o
  obj : ∃ t1, h'.get? e = some { cls := .ref C, dict := some dx, data := .fields #[.ref t1, .none, .none, .none, .bool false, .none] }
  dbig : h.objs.size ≤ dx
  dne : dx ≠ e
  ns : h'.Ns1 dx (fun y => if y = "value" then some v else none)
section
variable {P : Program} {w : World} {A : Around} {E : Value → Shared → Prop} {R : Result → Shared → Prop} {s : Shared} {K : Frag} {mg mb : Str → Option Value} {x : Str} {C D fI cc cda : Addr}
theorem job_init (T : JobTxt P K mg x C D fI cc cda) {e t0 : Addr} {v : Value} (X : K.In s.heap) (gl : s.heap.Ns mainGlobals mg) (bl : s.heap.Ns builtinsNs mb) (bb : ∀ x : Str, x ≠ "__name__" → mb x = bootBuiltins x) (lim : s.heap.NoLimit)
    (he : s.heap.get? e = some (excO C t0)) (hne : K.lookup e = none) (room : A.depth < recursionLimit) (hq : ∀ h' tk dx, JEnd s.heap h' e C dx v → R (.ok (.ret .none)) { s with heap := h', toks := tk }) :
    codeAny (model P w) A (.call (.ref fI) ⟨[.ref e, v], []⟩) R s := by
  obtain ⟨oc, od, doc, pm, an, ct, osl, p1, p2, q1, q2, q3, q4, q5, q6, q7, q8, q9, q10, hln, ho, hcd⟩ := T.fn
  obtain ⟨ccl, cdd, vs, ccs, file, tf, hcode, hvs, hfile⟩ := T.code
  obtain ⟨cl, cld, csl, hcell⟩ := T.cell
  obtain ⟨nm, q, N, bs, bm, sn, sub, ab, col, dd, k0, k1, k2, k3, k5, hC, hbm⟩ := T.cls
  have hcl : clsIn K C = some { name := nm, bases := bs, mro := .ref C :: bm, ns := N, qualname := q, hasDict := true, slotNames := sn, subclasses := sub, abstract := ab, collection := col, hasDel := false } := by unfold clsIn; rw [hC] <;> rfl
  obtain ⟨cdD, hcdD⟩ := Option.isSome_iff_exists.mp T.isD
  obtain ⟨g0, hg0⟩ : ∃ g0, g0 = hideAll s.heap [e] := ⟨_, rfl⟩
  have up : ∀ b o, b ≠ e → s.heap.get? b = some o → g0.get? b = some o := fun b o n z => by rw [hg0]; exact hideAll_get _ z (by simp [n])
  have dn : ∀ b o, g0.get? b = some o → s.heap.get? b = some o := fun b o z => by rw [hg0] at z; exact of_hideAll _ z
  have ge : g0.get? e = none := by rw [hg0]; exact hideAll_none _ (by simp)
  have X0 : K.In g0 := fun b o z => up b o (fun y => by rw [y, hne] at z; cases z) (X b o z)
  have ns0 : ∀ {b : Addr} {m : Str → Option Value}, s.heap.Ns b m → g0.Ns b m := fun {b m} ⟨o, es, ep, z, d, r⟩ => ⟨o, es, ep, up b o (fun y => by rw [y, he] at z; cases z; cases d) z, d, r⟩
  refine ks_codeAny_call_defAt (body := jBody q1 q2 q3 q4 q5 q6 q7 q8 q9 q10) (binds := [("self", .ref e), ("value", v)]) room (X _ _ ho) rfl lim (codeRec_of X hcd) rfl (BindsTo.of_eq (by first | rfl | with_unfolding_all rfl)) (show ∀ y ∈ jScope.names, y.2 ≠ NameKind.cell from by decide) (by
    intro y hy
    rcases List.mem_cons.mp hy with rfl | hy
    · rfl
    · rcases List.mem_cons.mp hy with rfl | hy
      · rfl
      · cases hy) (fun h1 hns hk => ?_) rfl rfl rfl
  have F1 : Fr g0 s.heap.objs.size h1 (fun y => [(("self" : Str), Value.ref e), ("value", v)].reverse.lookup y) := ⟨hns, fun b o z => hk b o (dn b o z), by rw [hg0, hideAll_size]; exact Nat.le_refl _⟩
  have N1 : News g0 s.heap.objs.size h1 [(e, excO C t0)] := fun p hp => by
    rcases List.mem_cons.mp hp with rfl | hp
    · exact ⟨hk _ _ he, Nat.ne_of_lt (Heap.lt_size he), ge⟩
    · cases hp
  have X1 : K.In h1 := X.keeps hk
  have I1 : InstAt h1 e (excO C t0) C none := ⟨hk _ _ he, rfl, rfl, trivial⟩
  obtain ⟨oD, hD1, hD2⟩ : ∃ oD, h1.get? D = some oD ∧ oD.data = .cls cdD := by
    have z := hcdD
    unfold clsIn at z
    split at z
    · rename_i c d cd' sl ho'
      cases z
      exact ⟨_, X1 _ _ ho', rfl⟩
    · cases z
  have lself : (fun y => [(("self" : Str), Value.ref e), ("value", v)].reverse.lookup y) "self" = some (.ref e) := by first | rfl | with_unfolding_all rfl
  have lval : (fun y => [(("self" : Str), Value.ref e), ("value", v)].reverse.lookup y) "value" = some v := by first | rfl | with_unfolding_all rfl
  -- super().__init__(value)
  refine ks_wpAt_execs_cons (ks_wpAt_Expr_any (ks_wpAt_MethodCall ?_ (super_eq hln)))
  refine ks_wpAt_super_base (f := fI) (cc := cda) (ar := { arg := "self", annotation := none, pos := p1 }) rfl rfl rfl rfl (X1 _ _ ho) rfl rfl rfl (X1 _ _ hcode) rfl hvs hfile T.top ?_
  refine ks_loadName_global rfl rfl (loadGlobal_builtin ((ns0 gl).keeps F1.keep) T.sup ((ns0 bl).keeps F1.keep) ((bb _ (by decide +kernel)).trans super_boot) ⟨rfl, ?_⟩)
  refine wpAny_loadName_free rfl rfl rfl ⟨_, X1 _ _ hcell, rfl⟩ ?_
  refine wpAny_loadName_local rfl rfl F1.ns lself ?_
  refine ks_wpAny_isType_cls hD1 hD2 ⟨rfl, ?_⟩
  refine ks_wpAny_call_super hD1 hD2 I1.at_ I1.cls (fun c z => by cases z) (looks_mroIn X1 T.su) (fun h2 ho2 hk2 => ?_)
  obtain ⟨F2, N2, l2⟩ := ks_newsPush (s := { s with heap := h1 }) F1 N1 rfl ho2 hk2
  have I2 : InstAt h2 e (excO C t0) C none := ⟨hk2 _ _ (hk _ _ he), rfl, rfl, trivial⟩
  refine kxs_method kxs_ValueError F2 X0 N2 List.mem_cons_self I2 T.opq T.sm T.isB rfl (fun u h3 F3 N3 l3 => ?_)
  refine kxs_callWith1 N3 List.mem_cons_self (PyProof.Rows.args_cons (wpAny_Name (wpAny_loadName_local rfl rfl F3.ns lval ?_)) rfl)
  refine PyProof.Rows.args_nil ?_
  have ue : u ≠ e := Nat.ne_of_gt (l3 (e, excO C t0) (by simp))
  have se : h1.objs.size ≠ e := Nat.ne_of_gt (Heap.lt_size (hk _ _ he))
  refine ⟨kxs_at N3 List.mem_cons_self, kxs_call (t := t0) (dv := none) (c2 := .none) F3 X0 N3 F.excBase_ValueError T.qx List.mem_cons_self (.tail ue (.tail se (.head (fun p hp => by cases hp)))) (one_fits v) fun t1 h4 F4 N4 l4 => ?_⟩
  -- self.value = value
  refine ks_wpAt_execs_cons (ks_wpAt_Assign_Attr (wpAt_of_wpAny ?_))
  refine wpAny_Name (wpAny_loadName_local rfl rfl F4.ns lval (wpAny_Name (wpAny_loadName_local rfl rfl F4.ns lself ?_)))
  have X4 : K.In h4 := X0.keeps F4.keep
  have e4 : h4.get? e = some (excO C t1) := (N4 (e, excO C t1) (by simp)).1
  refine set_plain X4 (ox := excO C t1) (od := none) ⟨e4, rfl, rfl, trivial⟩ T.sa ?_
  refine exc_osa X4 e4 hcl (show refsVE (.ref C :: bm) = true from hbm) rfl T.nv (fun h5 tk5 dx k5 dn5 dne5 he5 hn5 => ?_)
  refine wpAt_of_wpAny (wpAny_execs_nil (hq h5 tk5 dx ⟨fun b o hb z => k5 b o hb (F4.keep b o (up b o hb z)), ⟨t1, he5⟩, ?_, dne5, hn5⟩))
  have z1 : s.heap.objs.size < h4.objs.size := F4.ns.lt
  exact Nat.le_of_lt (Nat.lt_of_lt_of_le z1 dn5)
/-- a made error -/
structure JMade (h h' : Heap) (e C d : Addr) (v : Value) : Prop where
  keep : ∀ b o, h.get? b = some o → h'.get? b = some o
  new : h.objs.size ≤ e
  obj : ∃ oe vs, h'.get? e = some oe ∧ oe.cls = .ref C ∧ oe.dict = some d ∧ oe.data = .fields vs ∧ vs[1]? = some .none
  dbig : h.objs.size ≤ d
  dne : d ≠ e
  ns : h'.Ns1 d (fun y => if y = "value" then some v else none)
theorem job_made (T : JobTxt P K mg x C D fI cc cda) {v : Value} (X : K.In s.heap) (gl : s.heap.Ns mainGlobals mg) (bl : s.heap.Ns builtinsNs mb) (bb : ∀ x : Str, x ≠ "__name__" → mb x = bootBuiltins x) (lim : s.heap.NoLimit) (room : A.depth + 1 < recursionLimit)
    (hq : ∀ h' tk e d, JMade s.heap h' e C d v → R (.ok (.ret (.ref e))) { s with heap := h', toks := tk }) : codeAny (model P w) A (.call (.ref C) ⟨[v], []⟩) R s := by
  obtain ⟨nm, q, N, bs, bm, sn, sub, ab, col, dd, k0, k1, k2, k3, k5, hC, hbm⟩ := T.cls
  obtain ⟨hp, gs, dr, tk, os⟩ := s
  have up : ∀ b o, hp.get? b = some o → ((hp.push (kdv_tup [v])).push (excO C hp.objs.size)).get? b = some o := fun b o e => Heap.get?_push_of_some _ (Heap.get?_push_of_some _ e)
  have at1 : ((hp.push (kdv_tup [v])).push (excO C hp.objs.size)).get? (hp.objs.size + 1) = some (excO C hp.objs.size) := by heap_get
  have free1 : K.lookup (hp.objs.size + 1) = none := by
    cases z : K.lookup (hp.objs.size + 1) with
    | none => rfl
    | some o => exact absurd (Nat.lt_of_succ_lt (Heap.lt_size (show hp.get? (hp.objs.size + 1) = some o from X _ _ z))) (Nat.lt_irrefl _)
  refine call_own F.excBase_ValueError (fun X => refsVE_contains X bm hbm) (X _ _ hC) (looks_findIn X T.iC) (fun self => bind_fn X self T.tI) (one_fits v) ?_
  refine job_init (s := ⟨(hp.push (kdv_tup [v])).push (excO C hp.objs.size), gs, dr, tk, os⟩) T (X.keeps up) (gl.keeps up) (bl.keeps up) bb (lim.keeps up) at1 free1 room fun h' tk' dx J => ?_
  obtain ⟨t1, ob⟩ := J.obj
  have big : hp.objs.size + 1 + 1 ≤ dx := by
    have z := J.dbig
    rw [Heap.size_push, Heap.size_push] at z
    exact z
  exact ⟨rfl, hq h' tk' (hp.objs.size + 1) dx ⟨fun b o z => J.keep b o (Nat.ne_of_lt (Nat.lt_succ_of_lt (Heap.lt_size z))) (up b o z), Nat.le_succ _, ⟨_, _, ob, rfl, rfl, rfl, rfl⟩, Nat.le_trans (Nat.le_trans (Nat.le_succ _) (Nat.le_succ _)) big, J.dne, J.ns⟩⟩
end
end AA
namespace AA
open PySem PySem.Spec L2
open PyProof.Rows hiding St
theorem val_only {v : V} {v' : Value} (r : RelV v v') (f : Str) : RelO (List.lookup f [(("value" : Str), v)]) (if f = "value" then some v' else none) := by
  by_cases e : f = "value"
  · subst e
    rw [if_pos rfl, show List.lookup ("value" : Str) [(("value" : Str), v)] = some v by simp [List.lookup]]
    exact r
  · have n : (f == ("value" : Str)) = false := by simpa using e
    rw [if_neg e, show List.lookup f [(("value" : Str), v)] = none by simp [List.lookup, n]]
    trivial
/-- C(e) may be said -/
theorem mk_ok {X : Cx} {x : Str} {C D fI cc cda : Addr} {L : Nat} (T : JobTxt X.prog X.K X.mg x C D fI cc cda) (hr : Room L X.A) : MkOk X C x := by
  intro a p pos ta ha hg he pins s σ H Q I h
  refine wpAny_Call_Name_kw (ld_glob I hg T.gC ?_ T.dbg)
  refine PySem.W.callWith_K (h₀ := X.base) I.ok.mod.kin T.kC (thn (ha.run pos pins s σ H _ I h) fun us s1 ⟨vs, H1, I1, r1, v, ev, q1⟩ => ⟨I1.kIn, ?_⟩) he (by rfl)
  subst ev
  obtain ⟨u, rfl, ru⟩ := vals1 r1
  show wpAny _ _ (call (.ref C) [u]) _ _ _
  obtain ⟨mb, b1, b2⟩ := I1.mod.blt
  have dp := hr.dp
  refine wpAny_call (job_made T I1.kIn (I1.mod.glob.keeps I1.bk) (b1.keeps I1.bk) b2 I1.nolimit (by omega) fun h2 tk e d M => ?_)
  show MkP X pins σ Q (.ref e) { s1 with heap := h2, toks := tk }
  obtain ⟨oe, fv, e1, e2, e3, e4, e5⟩ := M.obj
  obtain ⟨G, g1, g2⟩ := restrict h2 fun b => decide (b ≠ e)
  have keep : ∀ b, b ≠ e → G.get? b = h2.get? b := fun b hb => g1 b (decide_eq_true hb)
  have gone : G.get? e = none := g2 e (by simp)
  have old : ∀ b o, s1.heap.get? b = some o → G.get? b = some o := fun b o z => (keep b (Nat.ne_of_lt (Nat.lt_of_lt_of_le (Heap.lt_size z) M.new))).trans (M.keep b o z)
  have ob : ObjOk X.prog X.w (upd H1 d (.xd [(("value" : Str), v)])) G d (.xd [(("value" : Str), v)]) := ⟨_, M.ns.at (fun o z => (keep d M.dne).trans z), fun f => val_only ru f⟩
  have J : Inv X pins σ (upd H1 d (.xd [(("value" : Str), v)])) { s1 with heap := G, toks := tk } := I1.laid (t' := tk) old M.dbig ob
  refine ⟨e, oe, fv, { s1 with heap := G, toks := tk }, _, .ref C, some d, rfl, J, fun b o z => ?_, gone, e1, ⟨e2, e3⟩, e4, e5, ?_, rfl, I1.bare, raises_own T.sb T.ty, q1 d (I1.hok.fresh M.dbig)⟩
  · by_cases hb : b = e
    · have z2 : G.get? b = some o := z
      rw [hb, gone] at z2; cases z2
    · exact (keep b hb).symm.trans z
  · rw [upd_ne (Ne.symm M.dne)]
    exact I1.hok.fresh M.new
end AA
/-! AA14: a law's ends: the facts of the top gathered. -/
namespace AA
open PySem PySem.Spec L2
open PyProof.Rows hiding St

theorem walkG3 {l : PySem.W.OpenLaw} {n k : Nat} {q : Program} {loose : List Str} {XP : (Str → Option Value) → Heap → Prop} {YP : World → Heap → Prop} {d : DefRec} {K : Params → PySem.W.Frag} {x : Str}
    (hn : l.most = some n) (hn2 : n ≤ sizeLine) (hdf : d.params.defaults = []) (hr : Room k callerA) (hY : ∀ (w : World) (h : Heap), YP w h → (K w.params).In h)
    (F : ∀ (w : World) (mg : Str → Option Value) (fa : Addr) (h : Heap), (K w.params).In h → h.Ns mainGlobals mg → (∀ (x : Str) (c P : Addr), PySem.W.tabIn (K w.params) x = some (c, P) → ((PyProof.Rows.recsOf q).any fun e => e.name == x) = true → PySem.W.CodeHd h c P ∧ h.get? P = some (PySem.W.tabObj #[])) → mg d.name = some (.ref fa) →
      ∃ (fd : FuncData) (sp : Sp) (cs : List (Addr × Addr)), (∀ (s : Shared) (u : Value), BindsTo s fd ⟨[u], []⟩ [(x, u)]) ∧ (∀ p ∈ cs, PySem.W.CodeHd h p.1 p.2 ∧ h.get? p.2 = some (PySem.W.tabObj #[]) ∧ (K w.params).lookup p.2 = none) ∧
        (∀ base : Heap, (K w.params).In base → base.Ns mainGlobals mg → (∀ p ∈ cs, LamX.TabB base mg p.1 p.2) → FnG l.prog w (K w.params) mg base k fa fd [x] sp) ∧
        ∀ (H : Hp) (a : Addr) (ns : List Int), ns.length ≤ n → OnlyT cs H → SqL (K w.params) H a (ns.map V.int) → sp [.ref a] H (fun v _ => v = .bl true) fun _ _ _ => False) :
    PySem.W.WalkO q loose XP YP l.row.toRowW d [] (fun f vs => PySem.call f vs) := by
  refine Att.attach_call hn hdf fun w s0 s1 mg mb fa o pm cd doc a vs ns G Y ho hd hcd hmg hobj hints hlen hg => ?_
  obtain ⟨fd, sp, cs, hb, ht, hF, hsp⟩ := F w mg fa _ (hY w _ Y) G.T.g (fun x c P e1 e2 => by
    obtain ⟨d', hd', e3⟩ := List.any_eq_true.mp e2
    cases e4 : (PyProof.Rows.recsOf q).find? (fun e => e.name == x) with
    | none => exact absurd e3 (by simpa using List.find?_eq_none.mp e4 d' hd')
    | some d2 => exact PySem.W.tab_of G.T (hY w _ Y) e4 e1) hmg
  exact lawGT (hY w _ Y) G.T.g G.T.b G.T.builtins G.T.nolimit hg ht (fun _ => G.T.bmain) hobj hints (Nat.le_trans hlen hn2) hr hF hb (fun H hO hS => hsp H a ns hlen hO hS) fun H e s' z => by
    obtain ⟨_, _, _, _, _, _, _, _, _, _, _, _, z⟩ := z
    exact z
/-- tables told by name -/
theorem tabs_of {cs : List (Addr × Addr)} {T : List (Addr × Str)} {H : Hp} (h : OnlyT cs H) (e : T.map (·.1) = cs.map (·.2)) : LamX.Tabs T H := fun q hq => by
  have hm : q.1 ∈ cs.map (·.2) := by rw [← e]; exact List.mem_map.mpr ⟨q, hq, rfl⟩
  obtain ⟨p, hp, ep⟩ := List.mem_map.mp hm
  exact LamX.TabS.nil (by rw [← show p.2 = q.1 from ep]; exact h p hp)
section
variable {Γ : Tab} {P : Program} {w : World} {K : PySem.W.Frag} {cad : Cad} {mg : Str → Option Value} {base : Heap} {L : Nat}
/-- a def of the module, by all that its text and the top tell -/
theorem fnI_of {f : Fn} {qual : Str} {st : Stmt} {fa : Addr} {fd : FuncData} {N : List Str} {body : Ss} (m : Mo Γ P w K cad mg base L) (Fu : Fun K f.name qual st fa fd) (S : FnScope N f.par (defScope st)) (chk : chkSs Γ N (defScope st) (fun _ => true) body (defBody st) = true)
    (hsp : ∀ ds M Q X, ds.length = f.par.length → f.sp ds M Q X → wpSs Γ body (dEnds Q X) (dstart N ds) M) (htb : Γ.lams.contains N = true → DefTb Γ P w K cad mg base L fd qual) (hd : (f.name == ("__debug__" : Str)) = false) (hm : mg f.name = some (.ref fa)) (hb : Binds K fd f.par [])
    (hk : f.kw = true → ∀ (s : Shared) (ws : List Value), K.In s.heap → ws.length = f.par.length → BindsTo s fd ⟨[], f.par.zip ws⟩ (f.par.zip ws)) (how : f.own = none := by rfl) : FnI P w K cad mg base (L + 1) f :=
  ⟨hd, fa, fd, L + 1, by unfold slack; rw [how]; exact Nat.le_refl _, def_ok m Fu S chk hsp htb, by unfold AtN; rw [how]; exact ⟨hm, Fu.kp⟩, hb, hk⟩
/-- a def of a class: __init__, a method, a getter -/
theorem fnM_of {f : Fn} {nm qual : Str} {st : Stmt} {fa : Addr} {fd : FuncData} {N : List Str} {body : Ss} (m : Mo Γ P w K cad mg base L) (Fu : Fun K nm qual st fa fd) (S : FnScope N f.par (defScope st)) (chk : chkSs Γ N (defScope st) (fun _ => true) body (defBody st) = true)
    (hsp : ∀ ds M Q X, ds.length = f.par.length → f.sp ds M Q X → wpSs Γ body (dEnds Q X) (dstart N ds) M) (htb : Γ.lams.contains N = true → DefTb Γ P w K cad mg base L fd qual) (hd : (f.name == ("__debug__" : Str)) = false) (hat : AtN K cad mg f fa) (hb : Binds K fd f.par []) (hk : f.kw = false) : FnI P w K cad mg base (L + 2) f :=
  ⟨hd, fa, fd, L + 1, by unfold slack; split <;> omega, def_ok m Fu S chk hsp htb, hat, hb, fun z => by rw [hk] at z; cases z⟩
/-- a def that is not called by its own promise -/
theorem fnI_no {f : Fn} {qual : Str} {st : Stmt} {fa : Addr} {fd : FuncData} (L : Nat) (hf : ∀ ds M Q X, ¬ f.sp ds M Q X) (Fu : Fun K f.name qual st fa fd) (hd : (f.name == ("__debug__" : Str)) = false) (hm : mg f.name = some (.ref fa)) (hb : Binds K fd f.par []) (hk : f.kw = false) (how : f.own = none := by rfl) : FnI P w K cad mg base L f :=
  ⟨hd, fa, fd, L, by unfold slack; rw [how]; exact Nat.le_refl _, ⟨fun vs H Q E h => lsp_len h, fun A callers s H args us vs Q E _ _ _ _ _ h => by
    obtain ⟨_, _, _, _, _, _, _, _, _, z, _⟩ := h
    exact (hf _ _ _ _ z).elim⟩, by unfold AtN; rw [how]; exact ⟨hm, Fu.kp⟩, hb, fun z => by rw [hk] at z; cases z⟩
theorem tab_is {x qual : Str} {f c Pt : Addr} {oc : Value} {od od2 : Option Addr} {a : Arguments} {b : List Stmt} {sc : Scope} {dV kV doc pm cd ct yc : Value} {an : Option Addr} {sl ys : Array (Option Value)} {vs : Array Value}
    (e1 : PySem.W.nsIn K mainGlobals x = some (some (.ref f))) (e2 : K.lookup f = some ⟨oc, od, .func (PySem.W.fnOf x qual a b sc dV kV doc pm an cd ct), sl⟩) (e3 : cd = .ref c) (e4 : K.lookup c = some ⟨yc, od2, .fields vs, ys⟩) (e5 : vs[11]? = some (.ref Pt)) : PySem.W.tabIn K x = some (c, Pt) := by
  subst e3
  unfold PySem.W.tabIn
  simp only [e1, e2, e4, e5]
theorem fns_nil {L : Nat} : ∀ (k : Nat) f, ([] : List Fn)[k]? = some f → FnI P w K cad mg base L f := fun k f h => by simp at h
theorem fns_snoc {l : List Fn} {g : Fn} {L : Nat} (h : ∀ (k : Nat) f, l[k]? = some f → FnI P w K cad mg base L f) (hg : FnI P w K cad mg base (L + 1) g) : ∀ (k : Nat) f, (l ++ [g])[k]? = some f → FnI P w K cad mg base (L + 1) f := fun k f e => by
  by_cases hk : k < l.length
  · rw [List.getElem?_append_left hk] at e
    exact (h k f e).mono (Nat.le_succ L)
  · rw [List.getElem?_append_right (Nat.le_of_not_lt hk)] at e
    cases hz : k - l.length with
    | zero => rw [hz] at e; cases e; exact hg
    | succ n => rw [hz] at e; simp at e
/-- what does not hang on the level: the module's facts -/
structure Mo0 (lc : List (Str × D)) (ln : List Str) (sub : Nat → Nat → Bool) (la li : List (Nat × Str)) (P : Program) (K : PySem.W.Frag) (cad : Cad) (mg : Str → Option Value) : Prop where
  cst : ∀ (k : Nat) c, lc[k]? = some c → (c.1 == ("__debug__" : Str)) = false ∧ ∃ v u, mg c.1 = some u ∧ RelV v u ∧ ∀ ρ H α, RD ⟨K, cad⟩ ρ H α c.2 v
  bi : ∀ n ∈ biNames, mg n = none
  exc : ∀ c, c < ln.length → ExcK K (cad c)
  cls : ∀ c x, ln[c]? = some x → ClsK K mg cad ln.length sub c x
  ve : ∀ c, c < ln.length → PySem.W.kitOne K (.ref (cad c)) (.type "ValueError") = some true
  job : ∀ (c : Nat) x, ln[c]? = some x → ∃ D fI cc cda, JobTxt P K mg x (cad c) D fI cc cda
  ats : AtsOk K cad la
  ins : ∀ p ∈ li, InsC K mg cad p.1 p.2
theorem Mo0.mo {cst : List (Str × D)} {cls : List Str} {sub : Nat → Nat → Bool} {lams : List (List Str)} {ats ins : List (Nat × Str)} {l : List Fn} (m : Mo0 cst cls sub ats ins P K cad mg) (h : ∀ (k : Nat) f, l[k]? = some f → FnI P w K cad mg base L f) : Mo ⟨cst, l, cls, sub, PyData.shown, lams, ats, ins⟩ P w K cad mg base L :=
  ⟨h, m.cst, m.bi, rfl, m.exc, m.cls, m.ve, m.ats, m.ins, fun c x e X e1 e2 e3 e4 e5 hr => by
    obtain ⟨D, fI, cc, cda, J⟩ := m.job c x e
    subst e1 e2 e3 e4 e5
    exact mk_ok J hr⟩
/-- a list by its items -/
theorem all_nil {α : Type} {p : Nat → α → Prop} : ∀ (k : Nat) a, ([] : List α)[k]? = some a → p k a := fun k a h => by simp at h
theorem all_cons {α : Type} {p : Nat → α → Prop} {x : α} {l : List α} (h0 : p 0 x) (h : ∀ (k : Nat) a, l[k]? = some a → p (k + 1) a) : ∀ (k : Nat) a, (x :: l)[k]? = some a → p k a
  | 0, a, e => by simp at e; subst e; exact h0
  | k + 1, a, e => h k a (by simpa using e)
theorem cst_int {h : Heap} (X : K.In h) (G : h.Ns mainGlobals mg) {x : Str} {i : Int} {t : Tok} (hd : (x == ("__debug__" : Str)) = false) (e : PySem.W.nsIn K mainGlobals x = some (some (.int i t))) :
    (x == ("__debug__" : Str)) = false ∧ ∃ v u, mg x = some u ∧ RelV v u ∧ ∀ ρ H α, RD ⟨K, cad⟩ ρ H α (.int i) v := ⟨hd, .int i, _, PySem.W.mg_of X G e, ⟨t, rfl⟩, fun _ _ _ => rfl⟩
theorem cst_str {h : Heap} (X : K.In h) (G : h.Ns mainGlobals mg) {x y : Str} {t : Tok} (hd : (x == ("__debug__" : Str)) = false) (e : PySem.W.nsIn K mainGlobals x = some (some (.str y t))) :
    (x == ("__debug__" : Str)) = false ∧ ∃ v u, mg x = some u ∧ RelV v u ∧ ∀ ρ H α, RD ⟨K, cad⟩ ρ H α (.str y) v := ⟨hd, .str y, _, PySem.W.mg_of X G e, ⟨t, rfl⟩, fun _ _ _ => rfl⟩
noncomputable def intOfV : Value → Option Int
  | .int i _ => some i
  | _ => none
theorem vals_of : ∀ (vs : List Value) (ns : List Int), vs.map intOfV = ns.map some → Vals (ns.map V.int) vs
  | [], [], _ => .nil
  | [], _ :: _, h => by simp at h
  | _ :: _, [], h => by simp at h
  | v :: vs, n :: ns, h => by
    rw [List.map_cons, List.map_cons] at h
    injection h with h1 h2
    refine .cons ?_ (vals_of vs ns h2)
    cases v <;> simp [intOfV] at h1
    subst h1
    exact ⟨_, rfl⟩
/-- a constant that is a tuple of whole numbers -/
theorem cst_tup {h : Heap} (X : K.In h) (G : h.Ns mainGlobals mg) {x : Str} {ns : List Int} {a : Addr} {its : Array Value} {n : Nat} {dd : Option Addr} {sl : Array (Option Value)} (hd : (x == ("__debug__" : Str)) = false) (e : PySem.W.nsIn K mainGlobals x = some (some (.ref a)))
    (lk : K.lookup a = some ⟨.type "tuple", dd, .seq its n, sl⟩) (hv : its.toList.map intOfV = ns.map some) (hl : ns.length ≤ 1000) :
    (x == ("__debug__" : Str)) = false ∧ ∃ v u, mg x = some u ∧ RelV v u ∧ ∀ ρ H α, RD ⟨K, cad⟩ ρ H α (.tup (ns.map D.int)) v := by
  refine ⟨hd, .ref a, _, PySem.W.mg_of X G e, rfl, fun ρ H α => ⟨a, ns.map V.int, rfl, .inr ⟨_, its, n, lk, rfl, rfl, ?_, vals_of _ _ hv⟩, RDs.of_ints ns⟩⟩
  have := congrArg List.length hv
  rw [List.length_map, List.length_map, Array.length_toList] at this
  rw [sizeLine_eq]
  omega
/-- rows of whole numbers, each a tuple of the text -/
noncomputable def RowsAt (K : PySem.W.Frag) : List Value → List (List Int) → Prop
  | [], [] => True
  | u :: us, ns :: rows => (∃ (b : Addr) (dd : Option Addr) (its : Array Value) (n : Nat) (sl : Array (Option Value)), u = .ref b ∧ K.lookup b = some ⟨.type "tuple", dd, .seq its n, sl⟩ ∧ its.toList.map intOfV = ns.map some ∧ ns.length ≤ 1000) ∧ RowsAt K us rows
  | _, _ => False
theorem rows_rd : ∀ {us : List Value} {rows : List (List Int)}, RowsAt K us rows → us.length = rows.length ∧ ∃ vs, Vals vs us ∧ ∀ ρ H α, RDs ⟨K, cad⟩ ρ H α (rows.map fun ns => .tup (ns.map D.int)) vs
  | [], [], _ => ⟨rfl, [], .nil, fun _ _ _ => RDs.nil⟩
  | [], _ :: _, h => h.elim
  | _ :: _, [], h => h.elim
  | u :: us, ns :: rows, h => by
    obtain ⟨⟨b, dd, its, n, sl, rfl, lk, hv, hl⟩, h2⟩ := h
    obtain ⟨l, vs, r1, r2⟩ := rows_rd h2
    refine ⟨by rw [List.length_cons, List.length_cons, l], .ref b :: vs, .cons rfl r1, fun ρ H α => RDs.cons ⟨b, ns.map V.int, rfl, .inr ⟨_, its, n, lk, rfl, rfl, ?_, vals_of _ _ hv⟩, RDs.of_ints ns⟩ (r2 ρ H α)⟩
    have := congrArg List.length hv
    rw [List.length_map, List.length_map, Array.length_toList] at this
    rw [sizeLine_eq]
    omega
/-- a constant that is a tuple of tuples of whole numbers -/
theorem cst_rows {h : Heap} (X : K.In h) (G : h.Ns mainGlobals mg) {x : Str} {rows : List (List Int)} {a : Addr} {its : Array Value} {n : Nat} {dd : Option Addr} {sl : Array (Option Value)} (hd : (x == ("__debug__" : Str)) = false) (e : PySem.W.nsIn K mainGlobals x = some (some (.ref a)))
    (lk : K.lookup a = some ⟨.type "tuple", dd, .seq its n, sl⟩) (hv : RowsAt K its.toList rows) (hl : rows.length ≤ 1000) :
    (x == ("__debug__" : Str)) = false ∧ ∃ v u, mg x = some u ∧ RelV v u ∧ ∀ ρ H α, RD ⟨K, cad⟩ ρ H α (.tup (rows.map fun ns => .tup (ns.map D.int))) v := by
  obtain ⟨l, vs, r1, r2⟩ := rows_rd (cad := cad) hv
  refine ⟨hd, .ref a, _, PySem.W.mg_of X G e, rfl, fun ρ H α => ⟨a, vs, rfl, .inr ⟨_, its, n, lk, rfl, rfl, ?_, r1⟩, r2 ρ H α⟩⟩
  rw [Array.length_toList] at l
  rw [sizeLine_eq]
  omega
/-- a class's facts, gathered -/
structure CFacts (P : Program) (K : PySem.W.Frag) (x : Str) (C D fI cc cda : Addr) (bm : List Value) : Prop where
  aC : PySem.W.nsIn K mainGlobals x = some (some (.ref C))
  xL : ∃ nm q N bs sn sub ab col dd k0 k1 k2 k3 k5, K.lookup C = some (PySem.excClassObj nm q C N bs bm true sn sub ab col dd k0 k1 k2 k3 k5 "ValueError.__new__")
  rb : PySem.HandSPX.refsVE bm = true
  ex : ExcK K C
  sa : PySem.W.findIn K (.ref C) "__setattr__" = some (some (.builtin "object.__setattr__"))
  iC : PySem.W.findIn K (.ref C) "__init__" = some (some (.ref fI))
  tI : PySem.W.typeIn K (.ref fI) = some (.type "function")
  kC : PySem.W.keepIn K (.ref C) = true
  ty : PySem.W.typeIn K (.ref C) = some (.type "type")
  su : PySem.W.mroIn K C (.ref D) = some true
  sm : PySem.W.ks_superIn K C D "__init__" = some (some (.builtin "ValueError.__init__"))
  isB : PySem.W.subIn K (.ref C) (.type "ValueError") = some true
  qx : PySem.W.excInitIn K C veBases "ValueError.__new__" = true
/-- what the classes share -/
structure JFacts (P : Program) (K : PySem.W.Frag) (D fI cc cda : Addr) : Prop where
  fn : ∃ (oc : Value) (od : Option Addr) (doc pm : Value) (an : Option Addr) (ct : Value) (osl : Array (Option Value)) (p1 p2 q1 q2 q3 q4 q5 q6 q7 q8 q9 q10 : Pos), (q3.endLine == q5.line) = true ∧
    K.lookup fI = some ⟨oc, od, .func (PySem.W.ksFn "__init__" "JobError.__init__" (jArgs p1 p2) (jBody q1 q2 q3 q4 q5 q6 q7 q8 q9 q10) jScope .none .none doc pm an (.ref cda) ct cc), osl⟩ ∧ PySem.W.codeIn K (.ref cda) "JobError.__init__" = true
  code : ∃ (ccl : Value) (cdd : Option Addr) (vs : Array Value) (ccs : Array (Option Value)) (file : Str) (tf : Tok), K.lookup cda = some ⟨ccl, cdd, .fields vs, ccs⟩ ∧ vs[2]? = some (.str file tf) ∧ ((P.main.file : Str) == file) = true
  cell : ∃ (cl : Value) (cld : Option Addr) (csl : Array (Option Value)), K.lookup cc = some ⟨cl, cld, .cell (some (.ref D)), csl⟩
  isD : (PySem.W.clsIn K D).isSome = true
  sup : PySem.W.nsIn K mainGlobals "super" = some none
  top : (P.main.scope.names.lookup ("super" : Str)).isSome = false
  opq : PySem.W.nsIn K PySem.cStatics "thirdparty.any" = some none
theorem CFacts.job {h : Heap} (X : K.In h) (G : h.Ns mainGlobals mg) {x : Str} {C D fI cc cda : Addr} {bm : List Value} (c : CFacts P K x C D fI cc cda bm) (j : JFacts P K D fI cc cda) (hd : (x == ("__debug__" : Str)) = false) : JobTxt P K mg x C D fI cc cda := by
  obtain ⟨nm, q, N, bs, sn, sub, ab, col, dd, k0, k1, k2, k3, k5, xL⟩ := c.xL
  exact ⟨PySem.W.mg_of X G c.aC, hd, ⟨nm, q, N, bs, bm, sn, sub, ab, col, dd, k0, k1, k2, k3, k5, xL, c.rb⟩, c.sa, c.ex.nv, c.iC, c.tI, c.kC, c.ex.sb, c.ty, j.fn, j.code, j.cell, j.isD, c.su, PySem.W.mg_none_of X G j.sup, j.top, j.opq, c.sm, c.isB, c.qx⟩
end
end AA
/-! AA15: readings in short, for the laws' own proofs. -/
namespace AA
open PySem PySem.Spec
theorem shaped_int (i : Int) : SeqAt.shaped (.int i) = true := rfl
theorem cmp_eq_int {M : Mem} {i j : Int} {k : Bool → Prop} : cmpD .eq M (.int i) (.int j) k ↔ k (decide (i = j)) := by
  simp only [cmpD, cmpEq, eqRest, pdM, pd, PyData.eqv, shaped_int, true_and]
  rw [show (i == j) = decide (i = j) from rfl]
theorem cmp_ne_int {M : Mem} {i j : Int} {k : Bool → Prop} : cmpD .ne M (.int i) (.int j) k ↔ k (decide (i ≠ j)) := by
  simp only [cmpD, cmpEq, eqRest, pdM, pd, PyData.eqv, shaped_int, true_and]
  rw [show (!(i == j)) = decide (i ≠ j) by by_cases h : i = j <;> simp [h]]
theorem cmp_eq_str {M : Mem} {x y : Str} {k : Bool → Prop} : cmpD .eq M (.str x) (.str y) k ↔ k (decide (x = y)) := Iff.rfl
theorem cmp_ne_str {M : Mem} {x y : Str} {k : Bool → Prop} : cmpD .ne M (.str x) (.str y) k ↔ k (!decide (x = y)) := Iff.rfl
theorem cmp_lt {M : Mem} {i j : Int} {k : Bool → Prop} : cmpD .lt M (.int i) (.int j) k ↔ k (decide (i < j)) := Iff.rfl
theorem cmp_le {M : Mem} {i j : Int} {k : Bool → Prop} : cmpD .le M (.int i) (.int j) k ↔ k (decide (i ≤ j)) := Iff.rfl
theorem cmp_gt {M : Mem} {i j : Int} {k : Bool → Prop} : cmpD .gt M (.int i) (.int j) k ↔ k (decide (j < i)) := Iff.rfl
theorem cmp_ge {M : Mem} {i j : Int} {k : Bool → Prop} : cmpD .ge M (.int i) (.int j) k ↔ k (decide (j ≤ i)) := Iff.rfl
/-- sizes that need no thought -/
theorem mul_l {i j : Int} (h1 : -18446744073709551616 < i) (h2 : i < 18446744073709551616) : MulOk i j := .inl (.inl ⟨h1, h2⟩)
theorem mul_r {i j : Int} (h1 : -18446744073709551616 < j) (h2 : j < 18446744073709551616) : MulOk i j := .inl (.inr ⟨h1, h2⟩)
theorem log2_lt {n k : Nat} (h : n < 2 ^ k) (hk : 0 < k) : n.log2 < k := by
  by_cases z : n = 0
  · subst z; simpa using hk
  · exact (Nat.log2_lt z).mpr h
theorem div_ok {j : Int} (h0 : 0 < j) (h1 : j < 1073741824) : DivOk j := ⟨h0, .inl h1⟩
theorem pow_ok {i j : Int} (h : i.natAbs < 2 ^ 1000) (h0 : 0 ≤ j) (h1 : j ≤ 100) : PowOk i j := by
  have z := log2_lt h (by decide)
  refine ⟨h0, ?_⟩
  have a : ((i.natAbs.log2 : Int) + 1) * j ≤ 1000 * 100 := Int.mul_le_mul (by omega) h1 h0 (by decide)
  exact Int.le_trans a (by decide)
theorem ixN_nat {n k : Nat} (h : k < n) : L2.ixN n (k : Int) = some k := by
  unfold L2.ixN
  simp
  omega
theorem seqD_ref {M : Mem} {n : Nat} {xs : List D} (h : M[n]? = some (.lst xs)) : seqD M (.ref n) = some xs := by simp only [seqD, h]
theorem idxD_of {M : Mem} {x d : D} {xs : List D} {j : Int} {k : D → Prop} (h : seqD M x = some xs) (e : L2.atI xs j = some d) (q : k d) : idxD M x (.int j) k := by
  cases x with
  | str z => cases h
  | _ => simp only [idxD, h, e]; exact q
theorem idxS_of {M : Mem} {z : Str} {c : Nat} {j : Int} {k : D → Prop} (h : z.length ≤ 16777216) (e : L2.atI z.cps.toList j = some c) (q : k (.str ⟨#[c]⟩)) : idxD M (.str z) (.int j) k := by
  simp only [idxD, e]
  exact ⟨h, q⟩
theorem numL_of {M : Mem} {n : Nat} {xs : List D} {k : Nat → List D → Prop} (h : M[n]? = some (.lst xs)) (q : k n xs) : numL M (.ref n) k := by simp only [numL, h]; exact q
theorem asSeq_of {M : Mem} {x : D} {xs : List D} {k : List D → Prop} (h : seqD M x = some xs) (q : k xs) : asSeq M x k := by simp only [asSeq, h]; exact q
theorem len_of {rp : PyData → Str} {M : Mem} {x : D} {xs : List D} {k : D → Prop} (hx : ∀ z, x ≠ .str z) (h : seqD M x = some xs) (q : k (.int xs.length)) : biD rp .len [x] M k := by
  cases x with
  | str z => exact absurd rfl (hx _)
  | ref n =>
    simp only [seqD] at h
    split at h
    · rename_i ys hm
      cases h
      show (match M[n]? with | some (.lst xs) => k (.int xs.length) | some (.dct kvs) => k (.int kvs.length) | _ => False)
      rw [hm]
      exact q
    · cases h
  | non => cases h
  | bl b => cases h
  | int i => cases h
  | tup ys => cases h; exact q
  | lst ys => cases h; exact q
  | exc c v => cases h
  | dic0 => cases h
  | dts _ => cases h
theorem set_get {M : Mem} {n : Nat} {v w : MO} (h : M[n]? = some w) : (M.set n v)[n]? = some v := List.getElem?_set_self (List.getElem?_eq_some_iff.mp h).1
theorem set_set' {M : Mem} {n : Nat} {v w : MO} : (M.set n v).set n w = M.set n w := List.set_set ..
theorem seqD_set {M : Mem} {n : Nat} {v : MO} {x : D} (h : x ≠ .ref n) : seqD (M.set n v) x = seqD M x := by
  cases x with
  | ref k =>
    have hk : n ≠ k := fun z => h (by rw [z])
    simp only [seqD, List.getElem?_set_ne hk]
  | _ => rfl
theorem atI_nat {xs : List D} {i : Int} (h0 : 0 ≤ i) (h1 : i < xs.length) : ∃ d ∈ xs, L2.atI xs i = some d := by
  have hk : i.toNat < xs.length := by omega
  refine ⟨xs[i.toNat], List.getElem_mem hk, ?_⟩
  unfold L2.atI L2.ixN
  rw [if_pos h0, if_pos h1]
  exact List.getElem?_eq_getElem hk
theorem seqD_str {M : Mem} {x : D} {xs : List D} (h : seqD M x = some xs) : ∀ z, x ≠ .str z := fun z e => by rw [e] at h; cases h
theorem forD_nil {b : D → Dst → Option Dst} {body : TSD} {stay : Mem → Prop} {E : DE} {δ : Dst} {M : Mem} (h1 : stay M) (h2 : E.nx δ M) : forD b body stay E [] δ M := ⟨h1, h2⟩
theorem rngL_succ (lo : Int) (n : Nat) : rngL lo (n + 1) = .int lo :: rngL (lo + 1) n := by
  unfold rngL
  rw [List.range_succ_eq_map, List.map_cons, List.map_map]
  congr 1
  · simp
  · refine List.map_congr_left fun i _ => ?_
    show D.int (lo + ((i + 1 : Nat) : Int)) = D.int (lo + 1 + (i : Int))
    congr 1
    omega
theorem intsD_map : ∀ ns : List Int, intsD (ns.map D.int) = some ns
  | [] => rfl
  | n :: ns => by simp only [List.map_cons, intsD, intsD_map ns]
theorem cutL_ints (ns : List Int) (l h : Option Int) : ∃ ms : List Int, cutL (ns.map D.int) l h = ms.map D.int := by
  unfold cutL
  rw [← List.map_drop, ← List.map_take]
  exact ⟨_, rfl⟩
theorem atI_ints {ns : List Int} {k : Nat} (h : k < ns.length) : L2.atI (ns.map D.int) (k : Int) = some (.int ns[k]) := by
  unfold L2.atI L2.ixN
  rw [if_pos (by omega), if_pos (by rw [List.length_map]; omega)]
  show (ns.map D.int)[(k : Int).toNat]? = _
  rw [Int.toNat_natCast, List.getElem?_map, List.getElem?_eq_getElem h]
  rfl
theorem b2i_le (b : Bool) : -18446744073709551616 < PyProof.Rows.b2i b ∧ PyProof.Rows.b2i b < 18446744073709551616 := by cases b <;> decide
theorem blsD_map : ∀ bs : List Bool, blsD (bs.map D.bl) = some bs
  | [] => rfl
  | b :: bs => by simp only [List.map_cons, blsD, blsD_map bs]
theorem blsD_rep (n : Nat) (b : Bool) : blsD (List.replicate n (.bl b)) = some (List.replicate n b) := by
  have := blsD_map (List.replicate n b)
  rwa [List.map_replicate] at this
theorem all_rep (n : Nat) : (List.replicate n true).all id = true := by simp
theorem iteT {c : Prop} [Decidable c] {A B : Prop} (h : c) (a : A) : if c then A else B := by rw [if_pos h]; exact a
theorem iteF {c : Prop} [Decidable c] {A B : Prop} (h : ¬ c) (b : B) : if c then A else B := by rw [if_neg h]; exact b
end AA
/-! AA16: lists and tuples of whole numbers as data; filters of ranges. -/
namespace AA
open PySem PySem.Spec
theorem lstD_ref {M : Mem} {n : Nat} {xs : List D} (h : M[n]? = some (.lst xs)) : lstD M (.ref n) = some xs := by simp only [lstD, h]
theorem pds_ints : ∀ ns : List Int, pds (ns.map D.int) = some (ns.map PyData.int)
  | [] => rfl
  | n :: ns => by simp only [List.map_cons, pds, pd, pds_ints ns]
theorem lay_ints : ∀ ns : List Int, PyData.canLayAll0 (ns.map PyData.int) = true
  | [] => rfl
  | n :: ns => by simp only [List.map_cons, PyData.canLayAll0, PyData.canLay0, lay_ints ns, Bool.and_self]
theorem deep_ints : ∀ ns : List Int, PyData.depthAll (ns.map PyData.int) ≤ 1
  | [] => by simp [PyData.depthAll]
  | n :: ns => by
    have := deep_ints ns
    simp only [List.map_cons, PyData.depthAll, PyData.depth]
    omega
theorem shaped_ints (ns : List Int) : SeqAt.shaped (.list (ns.map PyData.int)) = true := by
  have := deep_ints ns
  unfold SeqAt.shaped
  rw [Bool.and_eq_true]
  refine ⟨by simp only [PyData.canLay0]; exact lay_ints ns, decide_eq_true ?_⟩
  simp only [PyData.depth]
  omega
theorem shaped_tints (ns : List Int) : SeqAt.shaped (.tuple (ns.map PyData.int)) = true := by
  have := deep_ints ns
  unfold SeqAt.shaped
  rw [Bool.and_eq_true]
  refine ⟨by simp only [PyData.canLay0]; exact lay_ints ns, decide_eq_true ?_⟩
  simp only [PyData.depth]
  omega
theorem eqv_ints : ∀ ns ms : List Int, PyData.eqvAll (ns.map PyData.int) (ms.map PyData.int) = decide (ns = ms)
  | [], [] => rfl
  | [], _ :: _ => rfl
  | _ :: _, [] => rfl
  | n :: ns, m :: ms => by
    simp only [List.map_cons, PyData.eqvAll, PyData.eqv, eqv_ints ns ms, List.cons.injEq]
    by_cases h : n = m <;> simp [h]
theorem pd_ints (ns : List Int) : pd (.lst (ns.map D.int)) = some (.list (ns.map PyData.int)) := by simp only [pd, pds_ints]
theorem pd_tints (ns : List Int) : pd (.tup (ns.map D.int)) = some (.tuple (ns.map PyData.int)) := by simp only [pd, pds_ints]
theorem eqv_lst (ns ms : List Int) : PyData.eqv (.list (ns.map .int)) (.list (ms.map .int)) = decide (ns = ms) := by simp only [PyData.eqv, eqv_ints]
theorem eqv_tup (ns ms : List Int) : PyData.eqv (.tuple (ns.map .int)) (.tuple (ms.map .int)) = decide (ns = ms) := by simp only [PyData.eqv, eqv_ints]
theorem eqv_int (i j : Int) : PyData.eqv (.int i) (.int j) = decide (i = j) := by simp only [PyData.eqv]; rfl
/-- the least and the next of a filtered range -/
theorem filt_head {n a : Nat} {p : Nat → Bool} {t : List Nat} (h : (List.range n).filter p = a :: t) : a < n ∧ p a = true ∧ (∀ y, y < a → p y = false) := by
  have hm : a ∈ (List.range n).filter p := by rw [h]; exact List.mem_cons_self
  have hs : List.Pairwise (· < ·) ((List.range n).filter p) := List.Pairwise.filter _ List.pairwise_lt_range
  rw [h] at hs
  rw [List.mem_filter, List.mem_range] at hm
  refine ⟨hm.1, hm.2, fun y hy => ?_⟩
  cases e : p y with
  | false => rfl
  | true =>
    have hy2 : y ∈ (List.range n).filter p := List.mem_filter.mpr ⟨List.mem_range.mpr (by omega), e⟩
    rw [h] at hy2
    rcases List.mem_cons.mp hy2 with z | z
    · omega
    · have := List.rel_of_pairwise_cons hs z
      omega
theorem filt_next {n a b : Nat} {p : Nat → Bool} {t : List Nat} (h : (List.range n).filter p = a :: b :: t) : a < b ∧ b < n ∧ p b = true ∧ (∀ y, a < y → y < b → p y = false) := by
  have hm : b ∈ (List.range n).filter p := by rw [h]; exact List.mem_cons_of_mem _ List.mem_cons_self
  have hs : List.Pairwise (· < ·) ((List.range n).filter p) := List.Pairwise.filter _ List.pairwise_lt_range
  rw [h] at hs
  rw [List.mem_filter, List.mem_range] at hm
  refine ⟨List.rel_of_pairwise_cons hs List.mem_cons_self, hm.1, hm.2, fun y hy hyb => ?_⟩
  cases e : p y with
  | false => rfl
  | true =>
    have hy2 : y ∈ (List.range n).filter p := List.mem_filter.mpr ⟨List.mem_range.mpr (by omega), e⟩
    rw [h] at hy2
    rcases List.mem_cons.mp hy2 with z | z
    · omega
    · rcases List.mem_cons.mp z with z | z
      · omega
      · have := List.rel_of_pairwise_cons (List.Pairwise.of_cons hs) z
        omega
end AA
/-! AA17: what may be shown. -/
namespace AA
open PySem PySem.Spec
/-! ### what may be shown -/
noncomputable def big : Int := 10 ^ 40
theorem big_nat {i : Int} (h0 : -big ≤ i) (h1 : i ≤ big) : i.natAbs < 10 ^ 41 := by
  unfold big at h0 h1
  omega
theorem shown_len {i : Int} (h0 : -big ≤ i) (h1 : i ≤ big) : (PyData.shown (.int i)).length ≤ 42 := by
  simp only [PyData.shown]
  rw [ofString_length]
  exact int_text_length_le10 (by decide) (big_nat h0 h1)
theorem show_able {i : Int} (h0 : -big ≤ i) (h1 : i ≤ big) : PyData.showable (.int i) = true := by
  simp only [PyData.showable]
  refine decide_eq_true (Nat.lt_of_lt_of_le (log2_lt (k := 200) ?_ (by decide)) (by decide))
  exact Nat.lt_of_lt_of_le (big_nat h0 h1) (by decide)
theorem repr_int {i : Int} (h0 : -big ≤ i) (h1 : i ≤ big) : ReprOk (.int i) := ⟨show_able h0 h1, rfl, by simp [PyData.depth], Nat.le_trans (shown_len h0 h1) (by decide)⟩
theorem show_all : ∀ {ns : List Int}, (∀ n ∈ ns, -big ≤ n ∧ n ≤ big) → PyData.showableAll (ns.map PyData.int) = true
  | [], _ => rfl
  | n :: ns, h => by
    simp only [List.map_cons, PyData.showableAll, Bool.and_eq_true]
    exact ⟨show_able (h n List.mem_cons_self).1 (h n List.mem_cons_self).2, show_all fun m hm => h m (List.mem_cons_of_mem _ hm)⟩
theorem nod_all : ∀ ns : List Int, PyData.hasDictAll (ns.map PyData.int) = false
  | [] => rfl
  | n :: ns => by simp only [List.map_cons, PyData.hasDictAll, PyData.hasDict, nod_all ns, Bool.or_self]
theorem piled_ints : ∀ {ns : List Int}, (∀ n ∈ ns, -big ≤ n ∧ n ≤ big) → piled (PyData.shownAll (ns.map PyData.int)) ≤ 44 * ns.length
  | [], _ => by simp [PyData.shownAll, piled_nil]
  | n :: ns, h => by
    simp only [List.map_cons, PyData.shownAll, piled_cons, List.length_cons]
    have h1 := shown_len (h n List.mem_cons_self).1 (h n List.mem_cons_self).2
    have h2 := piled_ints (ns := ns) fun m hm => h m (List.mem_cons_of_mem _ hm)
    omega
theorem repr_ints {ns : List Int} (hn : ns ≠ []) (hl : ns.length ≤ 1000) (h : ∀ n ∈ ns, -big ≤ n ∧ n ≤ big) : ReprOk (.tuple (ns.map PyData.int)) := by
  have dp := deep_ints ns
  refine ⟨by simp only [PyData.showable]; exact show_all h, by simp only [PyData.hasDict]; exact nod_all ns, by simp only [PyData.depth]; omega, ?_⟩
  have e : PyData.shown (.tuple (ns.map PyData.int)) = tupleText (PyData.shownAll (ns.map PyData.int)) := by simp only [PyData.shown]
  rw [e]
  have ne : PyData.shownAll (ns.map PyData.int) ≠ [] := by
    cases ns with
    | nil => exact absurd rfl hn
    | cons n ns => simp [PyData.shownAll]
  have l := join_length_add _ ne
  have p := piled_ints h
  unfold tupleText
  rw [strLen_append, strLen_append]
  have e1 : (("(" : String) : Str).length = 1 := rfl
  have e2 : ((if (PyData.shownAll (ns.map PyData.int)).length == 1 then ",)" else ")" : String) : Str).length ≤ 2 := by split <;> decide
  omega
theorem big_le {i : Int} (h0 : -1000000 ≤ i) (h1 : i ≤ 1000000) : -big ≤ i ∧ i ≤ big := by unfold big; omega
theorem rep_non : ReprOk .none := ⟨rfl, rfl, by decide, by decide +kernel⟩
theorem rep_bl (b : Bool) : ReprOk (.bool b) := by cases b <;> exact ⟨rfl, rfl, by decide, by decide +kernel⟩
theorem rep_small {i : Int} (h0 : -1000000 ≤ i) (h1 : i ≤ 1000000) : ReprOk (.int i) := repr_int (big_le h0 h1).1 (big_le h0 h1).2
theorem numL_last {M : Mem} {xs : List D} {k : Nat → List D → Prop} (q : k M.length xs) : numL (M ++ [.lst xs]) (.ref M.length) k := numL_of (by simp) q
theorem last_get (M : Mem) (o : MO) : (M ++ [o])[M.length]? = some o := by simp
/-! ### comprehensions, item by item -/
theorem comp_map {Γ : Tab} {e : E} {t : T} {δ : Dst} {Q : List D → Mem → Prop} {M : Mem} {stay : Mem → Prop} (hs : stay M) (f : D → D) : ∀ (xs acc : List D), (∀ x ∈ xs, ∃ δ', bindT t x δ = some δ' ∧ ∀ (R : DK) (X : XD), R (f x) M → wpE Γ e δ' M R X) → acc.length + xs.length ≤ 16777216 → Q (acc ++ xs.map f) M →
    compD (bindT t) (wpC Γ .no) (wpE Γ e) stay δ Q xs acc M
  | [], acc, _, _, h => ⟨hs, by simpa using h⟩
  | x :: xs, acc, hx, hl, h => by
    obtain ⟨δ', h1, h2⟩ := hx x List.mem_cons_self
    rw [List.length_cons] at hl
    refine ⟨hs, ?_⟩
    unfold bndD
    rw [h1]
    show wpC Γ .no δ' M _ _
    simp only [wpC]
    rw [if_pos trivial]
    refine h2 _ _ ⟨by omega, ?_⟩
    refine comp_map hs f xs (acc ++ [f x]) (fun y hy => hx y (List.mem_cons_of_mem _ hy)) (by rw [List.length_append]; simp; omega) ?_
    rw [List.append_assoc]
    exact h
theorem comp_filt {Γ : Tab} {e c : E} {t : T} {δ : Dst} {Q : List D → Mem → Prop} {M : Mem} {stay : Mem → Prop} (hs : stay M) (f : D → D) (p : D → Bool) : ∀ (xs acc : List D), (∀ x ∈ xs, ∃ δ', bindT t x δ = some δ' ∧ (∀ (R : Bool → Mem → Prop) (X : XD), R (p x) M → wpT Γ c δ' M R X) ∧ ∀ (R : DK) (X : XD), R (f x) M → wpE Γ e δ' M R X) → acc.length + xs.length ≤ 16777216 → Q (acc ++ (xs.filter p).map f) M →
    compD (bindT t) (wpC Γ (.so c)) (wpE Γ e) stay δ Q xs acc M
  | [], acc, _, _, h => ⟨hs, by simpa using h⟩
  | x :: xs, acc, hx, hl, h => by
    obtain ⟨δ', h1, h2, h3⟩ := hx x List.mem_cons_self
    rw [List.length_cons] at hl
    refine ⟨hs, ?_⟩
    unfold bndD
    rw [h1]
    show wpC Γ (.so c) δ' M _ _
    simp only [wpC]
    refine h2 _ _ ?_
    cases e1 : p x with
    | true =>
      rw [if_pos rfl]
      refine h3 _ _ ⟨by omega, ?_⟩
      refine comp_filt hs f p xs (acc ++ [f x]) (fun y hy => hx y (List.mem_cons_of_mem _ hy)) (by rw [List.length_append]; simp; omega) ?_
      rw [List.filter_cons_of_pos e1, List.map_cons] at h
      rw [List.append_assoc]
      exact h
    | false =>
      rw [if_neg Bool.false_ne_true]
      refine comp_filt hs f p xs acc (fun y hy => hx y (List.mem_cons_of_mem _ hy)) (by omega) ?_
      rw [List.filter_cons_of_neg (by rw [e1]; exact Bool.false_ne_true)] at h
      exact h
theorem mem_rngL {lo : Int} {n : Nat} {x : D} (h : x ∈ rngL lo n) : ∃ o : Int, x = .int o ∧ lo ≤ o ∧ o < lo + n := by
  unfold rngL at h
  obtain ⟨i, hi, rfl⟩ := List.mem_map.mp h
  rw [List.mem_range] at hi
  exact ⟨_, rfl, by omega, by omega⟩
noncomputable def restS : Ss → Ss | .cons _ r => r | r => r
theorem ne_int {i j : Int} (h : i ≠ j) : (!PyData.eqv (.int i) (.int j)) = true := by simp [PyData.eqv, h]
theorem ne_int' {i j : Int} (h : i = j) : ¬ (!PyData.eqv (.int i) (.int j)) = true := by simp [PyData.eqv, h]
end AA
/-! AA18: names, numbers and lines of a text; what stays in memory; short tuples shown. -/
namespace AA
open PySem PySem.Spec TL
/-! ### what stays -/
/-- all that stood stands, but what S names -/
structure Stays (S : List Nat) (M M' : Mem) : Prop where
  len : M.length ≤ M'.length
  at_ : ∀ k, k < M.length → k ∉ S → M'[k]? = M[k]?
theorem Stays.refl (S : List Nat) (M : Mem) : Stays S M M := ⟨Nat.le_refl _, fun _ _ _ => rfl⟩
theorem Stays.trans {S : List Nat} {M M1 M2 : Mem} (h : Stays S M M1) (g : Stays S M1 M2) : Stays S M M2 :=
  ⟨Nat.le_trans h.len g.len, fun k hk hs => (g.at_ k (Nat.lt_of_lt_of_le hk h.len) hs).trans (h.at_ k hk hs)⟩
theorem Stays.mono {S T : List Nat} {M M' : Mem} (h : Stays S M M') (hs : ∀ k, k < M.length → k ∈ S → k ∈ T) : Stays T M M' := ⟨h.len, fun k hk ht => h.at_ k hk fun z => ht (hs k hk z)⟩
theorem Stays.app {S : List Nat} {M M1 : Mem} (h : Stays S M M1) (os : List MO) : Stays S M (M1 ++ os) :=
  h.trans ⟨by rw [List.length_append]; omega, fun k hk _ => List.getElem?_append_left hk⟩
theorem Stays.set {S : List Nat} {M M1 : Mem} (h : Stays S M M1) {n : Nat} (hn : n ∈ S ∨ M.length ≤ n) (o : MO) : Stays S M (M1.set n o) :=
  ⟨by rw [List.length_set]; exact h.len, fun k hk hs => by
    have : n ≠ k := fun z => by
      subst z
      rcases hn with hn | hn
      · exact hs hn
      · omega
    rw [List.getElem?_set_ne this]; exact h.at_ k hk hs⟩
theorem Stays.get {S : List Nat} {M M' : Mem} (h : Stays S M M') {k : Nat} {o : MO} (e : M[k]? = some o) (hs : k ∉ S) : M'[k]? = some o := by rw [h.at_ k (List.getElem?_eq_some_iff.mp e).1 hs]; exact e
theorem Stays.get0 {M M' : Mem} (h : Stays [] M M') {k : Nat} {o : MO} (e : M[k]? = some o) : M'[k]? = some o := h.get e (by simp)
/-! ### numbers -/
/-- the text of a number -/
noncomputable def numS (n : Nat) : Str := Str.ofString (toString ((n : Nat) : Int))
theorem tl_numS (n : Nat) : tl (numS n) = TL.numL n := tl_num n
theorem numS_int {n : Nat} (h : n < 10 ^ 9) : PySem.intText? (numS n) = some (n : Int) := int_num (Nat.le_trans (numL_len (by decide) h) (by decide))
theorem numS_len {n : Nat} (h : n < 10 ^ 9) : (numS n).length ≤ 9 := by rw [len_tl, tl_numS]; exact numL_len (by decide) h
theorem numS_ne (n : Nat) : tl (numS n) ≠ [] := by rw [tl_numS]; exact numL_ne n
theorem numS_free {n s : Nat} (h : s < 48 ∨ 57 < s) : s ∉ tl (numS n) := by rw [tl_numS]; exact numL_free h
theorem numS_dig {n c : Nat} (h : c ∈ tl (numS n)) : 48 ≤ c ∧ c ≤ 57 := by
  rw [tl_numS] at h
  exact numL_digits n c h
theorem toStr_numS {i : Int} (h : 0 ≤ i) : (Str.ofString (toString i) : Str) = numS i.toNat := by
  unfold numS
  rw [show ((i.toNat : Nat) : Int) = i by omega]
/-! ### signs -/
noncomputable def isL (c : Nat) : Bool := decide (97 ≤ c ∧ c ≤ 122)
noncomputable def isF (c : Nat) : Bool := decide (48 ≤ c ∧ c ≤ 57)
theorem in_sign (z : Str) (c : Nat) : (!(Builtin.Str.occurrences z ⟨#[c]⟩ 0 z.length 1).isEmpty) = decide (c ∈ tl z) := PySem.StrLaws.found_one z c
theorem tl_letters : tl ("abcdefghijklmnopqrstuvwxyz" : Str) = (List.range 26).map (97 + ·) := by decide +kernel
theorem tl_figures : tl ("0123456789" : Str) = (List.range 10).map (48 + ·) := by decide +kernel
theorem mem_from {a n c : Nat} : c ∈ (List.range n).map (a + ·) ↔ a ≤ c ∧ c < a + n := by
  rw [List.mem_map]
  constructor
  · rintro ⟨k, hk, rfl⟩
    rw [List.mem_range] at hk
    omega
  · rintro ⟨h1, h2⟩
    exact ⟨c - a, List.mem_range.mpr (by omega), by omega⟩
theorem in_letters (c : Nat) : (!(Builtin.Str.occurrences ("abcdefghijklmnopqrstuvwxyz" : Str) ⟨#[c]⟩ 0 ("abcdefghijklmnopqrstuvwxyz" : Str).length 1).isEmpty) = isL c := by
  rw [in_sign, tl_letters]
  unfold isL
  rw [decide_eq_decide, mem_from]
  omega
theorem in_figures (c : Nat) : (!(Builtin.Str.occurrences ("0123456789" : Str) ⟨#[c]⟩ 0 ("0123456789" : Str).length 1).isEmpty) = isF c := by
  rw [in_sign, tl_figures]
  unfold isF
  rw [decide_eq_decide, mem_from]
  omega
/-! ### names -/
noncomputable def nameB (l : List Nat) : Bool := (match l with | c :: _ => isL c | [] => false) && l.all (fun c => isL c || isF c) && decide (l.length ≤ 8)
noncomputable def NameOk (w : Str) : Prop := nameB (tl w) = true
noncomputable instance (w : Str) : Decidable (NameOk w) := by unfold NameOk; infer_instance
theorem NameOk.all {w : Str} (h : NameOk w) : ∀ c ∈ tl w, (isL c || isF c) = true := by
  simp only [NameOk, nameB, Bool.and_eq_true, List.all_eq_true] at h
  exact h.1.2
theorem NameOk.len {w : Str} (h : NameOk w) : w.length ≤ 8 := by
  simp only [NameOk, nameB, Bool.and_eq_true, decide_eq_true_eq] at h
  rw [len_tl]; exact h.2
theorem NameOk.head {w : Str} (h : NameOk w) : ∃ c r, tl w = c :: r ∧ isL c = true := by
  simp only [NameOk, nameB, Bool.and_eq_true] at h
  cases e : tl w with
  | nil => rw [e] at h; exact absurd h.1.1 (by decide)
  | cons c r => rw [e] at h; exact ⟨c, r, rfl, h.1.1⟩
theorem NameOk.free {w : Str} (h : NameOk w) {s : Nat} (hs : s < 48) : s ∉ tl w := fun hm => by
  have := h.all s hm
  simp only [isL, isF, Bool.or_eq_true, decide_eq_true_eq] at this
  omega
theorem NameOk.one {c : Nat} (h : isL c = true) : NameOk ⟨#[c]⟩ := by
  show nameB [c] = true
  simp [nameB, h]
theorem NameOk.snoc {w : Str} (h : NameOk w) (hl : w.length < 8) {c : Nat} (hc : (isL c || isF c) = true) : NameOk (w ++ ⟨#[c]⟩) := by
  obtain ⟨a, r, e, ha⟩ := h.head
  have h2 := h.all
  rw [len_tl] at hl
  have et : tl (w ++ ⟨#[c]⟩) = tl w ++ [c] := by rw [tl_append]
  unfold NameOk
  rw [et]
  rw [e] at h2 hl ⊢
  simp only [nameB, List.cons_append, Bool.and_eq_true, decide_eq_true_eq, List.all_eq_true]
  refine ⟨⟨ha, fun x hx => ?_⟩, ?_⟩
  · rcases List.mem_append.mp (show x ∈ (a :: r) ++ [c] from hx) with z | z
    · exact h2 x z
    · rw [List.mem_singleton.mp z]; exact hc
  · rw [List.length_cons] at hl ⊢
    rw [List.length_append]
    show r.length + 1 + 1 ≤ 8
    omega
/-! ### lines -/
noncomputable def lineS (ws : List Str) : Str := Str.join " " ws
noncomputable def textS (ls : List Str) : Str := Str.join "\n" ls
theorem split_line {ws : List Str} (h : ws ≠ []) (hf : ∀ w ∈ ws, 32 ∉ tl w) : Txt.split (lineS ws) " " = ws := by
  unfold lineS
  rw [← join_eq]
  exact split_join (s := 32) (S := []) (by decide +kernel) (by decide +kernel) h hf
theorem split_text {ls : List Str} (h : ls ≠ []) (hf : ∀ w ∈ ls, 10 ∉ tl w) : Txt.split (textS ls) "\n" = ls := by
  unfold textS
  rw [← join_eq]
  exact split_join (s := 10) (S := []) (by decide +kernel) (by decide +kernel) h hf
theorem split_none {w y : Str} {s : Nat} {S : List Nat} (ey : tl y = s :: S) (hk : y.cps.all (· < 256) = true) (hf : s ∉ tl w) : Txt.split w y = [w] := by
  have := split_join (y := y) (parts := [w]) ey hk (by simp) (fun p hp => by rw [List.mem_singleton.mp hp]; exact hf)
  rw [join_eq] at this
  exact this
theorem tl_line (ws : List Str) : tl (lineS ws) = joinL [32] (ws.map tl) := by
  unfold lineS
  rw [tl_join]
  rfl
theorem tl_text (ls : List Str) : tl (textS ls) = joinL [10] (ls.map tl) := by
  unfold textS
  rw [tl_join]
  rfl
theorem joinL_free {s : Nat} {S : List Nat} (hS : s ∉ S) : ∀ {ps : List (List Nat)}, (∀ p ∈ ps, s ∉ p) → s ∉ joinL S ps
  | [], _ => by simp [joinL]
  | [p], h => h p (List.mem_singleton.mpr rfl)
  | p :: q :: r, h => by
    show s ∉ p ++ (S ++ joinL S (q :: r))
    rw [List.mem_append, List.mem_append]
    rintro (z | z | z)
    · exact h p List.mem_cons_self z
    · exact hS z
    · exact joinL_free hS (fun x hx => h x (List.mem_cons_of_mem _ hx)) z
theorem line_free {ws : List Str} (h : ∀ w ∈ ws, 10 ∉ tl w) : 10 ∉ tl (lineS ws) := by
  rw [tl_line]
  refine joinL_free (by decide) fun p hp => ?_
  obtain ⟨w, hw, rfl⟩ := List.mem_map.mp hp
  exact h w hw
theorem joinL_len {S : List Nat} {k : Nat} : ∀ {ps : List (List Nat)}, (∀ p ∈ ps, p.length ≤ k) → (joinL S ps).length ≤ ps.length * (k + S.length)
  | [], _ => by simp [joinL]
  | [p], h => by
    have := h p (List.mem_singleton.mpr rfl)
    show p.length ≤ 1 * (k + S.length)
    omega
  | p :: q :: r, h => by
    have a := h p List.mem_cons_self
    have b := joinL_len (S := S) (ps := q :: r) (fun x hx => h x (List.mem_cons_of_mem _ hx))
    show (p ++ (S ++ joinL S (q :: r))).length ≤ ((q :: r).length + 1) * (k + S.length)
    rw [List.length_append, List.length_append, Nat.succ_mul]
    omega
theorem line_len {ws : List Str} {k : Nat} (h : ∀ w ∈ ws, w.length ≤ k) : (lineS ws).length ≤ ws.length * (k + 1) := by
  rw [len_tl, tl_line]
  have := joinL_len (S := [32]) (k := k) (ps := ws.map tl) fun p hp => by
    obtain ⟨w, hw, rfl⟩ := List.mem_map.mp hp
    rw [← len_tl]; exact h w hw
  rw [List.length_map] at this
  exact this
theorem text_len {ws : List Str} {k : Nat} (h : ∀ w ∈ ws, w.length ≤ k) : (textS ws).length ≤ ws.length * (k + 1) := by
  rw [len_tl, tl_text]
  have := joinL_len (S := [10]) (k := k) (ps := ws.map tl) fun p hp => by
    obtain ⟨w, hw, rfl⟩ := List.mem_map.mp hp
    rw [← len_tl]; exact h w hw
  rw [List.length_map] at this
  exact this
/-! ### what may be shown: short tuples -/
noncomputable def Atom (p : PyData) : Prop := p.showable = true ∧ p.hasDict = false ∧ p.depth ≤ 1 ∧ p.shown.length ≤ 100
theorem atom_int {i : Int} (h0 : -big ≤ i) (h1 : i ≤ big) : Atom (.int i) := ⟨show_able h0 h1, rfl, by simp [PyData.depth], Nat.le_trans (shown_len h0 h1) (by decide)⟩
theorem atom_none : Atom .none := ⟨rfl, rfl, by simp [PyData.depth], by decide +kernel⟩
theorem atom_str {w : Str} (h1 : ∀ c ∈ tl w, c < 16 ^ 8) (h2 : w.length ≤ 9) : Atom (.str w) := by
  refine ⟨rfl, rfl, by simp [PyData.depth], ?_⟩
  have := PySem.StrLaws.reprText_len w h1
  simp only [PyData.shown]
  omega
theorem NameOk.atom {w : Str} (h : NameOk w) : Atom (.str w) := atom_str (fun c hc => by
  have := h.all c hc
  simp only [isL, isF, Bool.or_eq_true, decide_eq_true_eq] at this
  omega) (by have := h.len; omega)
theorem Atom.ok {p : PyData} (h : Atom p) : ReprOk p := ⟨h.1, h.2.1, by have := h.2.2.1; omega, by have := h.2.2.2; omega⟩
theorem atoms_all : ∀ {ps : List PyData}, (∀ p ∈ ps, Atom p) → PyData.showableAll ps = true ∧ PyData.hasDictAll ps = false ∧ PyData.depthAll ps ≤ 1 ∧ piled (PyData.shownAll ps) ≤ 102 * ps.length
  | [], _ => ⟨rfl, rfl, by simp [PyData.depthAll], by simp [PyData.shownAll, piled_nil]⟩
  | p :: ps, h => by
    obtain ⟨a1, a2, a3, a4⟩ := h p List.mem_cons_self
    obtain ⟨b1, b2, b3, b4⟩ := atoms_all (ps := ps) fun q hq => h q (List.mem_cons_of_mem _ hq)
    refine ⟨by simp only [PyData.showableAll, a1, b1, Bool.and_self], by simp only [PyData.hasDictAll, a2, b2, Bool.or_self], ?_, ?_⟩
    · simp only [PyData.depthAll]; omega
    · simp only [PyData.shownAll, piled_cons, List.length_cons]; omega
theorem repr_atoms {ps : List PyData} (hn : ps ≠ []) (hl : ps.length ≤ 1000) (h : ∀ p ∈ ps, Atom p) : ReprOk (.tuple ps) := by
  obtain ⟨b1, b2, b3, b4⟩ := atoms_all h
  refine ⟨by simp only [PyData.showable]; exact b1, by simp only [PyData.hasDict]; exact b2, by simp only [PyData.depth]; omega, ?_⟩
  have e : PyData.shown (.tuple ps) = tupleText (PyData.shownAll ps) := by simp only [PyData.shown]
  rw [e]
  have ne : PyData.shownAll ps ≠ [] := by
    cases ps with
    | nil => exact absurd rfl hn
    | cons n ns => simp [PyData.shownAll]
  have l := join_length_add _ ne
  unfold tupleText
  rw [strLen_append, strLen_append]
  have e1 : (("(" : String) : Str).length = 1 := rfl
  have e2 : ((if (PyData.shownAll ps).length == 1 then ",)" else ")" : String) : Str).length ≤ 2 := by split <;> decide
  omega
/-! ### signs of a text, one by one -/
theorem atI_mem {l : List Nat} {i : Int} (h0 : 0 ≤ i) (h1 : i < l.length) : ∃ c ∈ l, L2.atI l i = some c := by
  have hk : i.toNat < l.length := by omega
  refine ⟨l[i.toNat], List.getElem_mem hk, ?_⟩
  unfold L2.atI L2.ixN
  rw [if_pos h0, if_pos h1]
  exact List.getElem?_eq_getElem hk
theorem strsD_map : ∀ ss : List Str, strsD (ss.map D.str) = some ss
  | [] => rfl
  | s :: ss => by simp only [List.map_cons, strsD, strsD_map ss]
/-- all([.. for sign in a text]) -/
theorem comp_signs {Γ : Tab} {e : E} {t : T} {δ : Dst} {Q : List D → Mem → Prop} {M : Mem} (p : Nat → Bool) (w : Str) (hw : w.length ≤ 1000) (hp : ∀ c ∈ tl w, p c = true)
    (he : ∀ c, ∃ δ', bindT t (.str ⟨#[c]⟩) δ = some δ' ∧ ∀ (R : DK) (X : XD), R (.bl (p c)) M → wpE Γ e δ' M R X) (h : Q (List.replicate w.length (.bl true)) M) :
    compD (bindT t) (wpC Γ .no) (wpE Γ e) (fun _ => True) δ Q (chrsD w) [] M := by
  refine comp_map (f := fun d => match d with | .str z => .bl (p (z.cps.toList.headD 0)) | _ => .non) trivial (chrsD w) [] (fun x hx => ?_) ?_ ?_
  · unfold chrsD at hx
    obtain ⟨c, hc, rfl⟩ := List.mem_map.mp hx
    exact he c
  · unfold chrsD
    rw [List.length_map]
    show 0 + (tl w).length ≤ _
    rw [← len_tl]
    omega
  · have e1 : ([] : List D) ++ (chrsD w).map (fun d => match d with | .str z => .bl (p (z.cps.toList.headD 0)) | _ => .non) = List.replicate w.length (.bl true) := by
      rw [List.nil_append]
      unfold chrsD
      rw [List.map_map, len_tl, List.eq_replicate_iff]
      refine ⟨by rw [List.length_map], fun b hb => ?_⟩
      obtain ⟨c, hc, rfl⟩ := List.mem_map.mp hb
      show D.bl (p c) = _
      rw [hp c hc]
    rw [e1]
    exact h
end AA
/-! K10m: the mathematics: rests put together. -/
namespace K10
/-- d | lcm a b: d | lcm (gcd d a) (gcd d b) -/
theorem dvd_lcm_gcds {d a b : Nat} (hd : 0 < d) (h : d ∣ Nat.lcm a b) : d ∣ Nat.lcm (Nat.gcd d a) (Nat.gcd d b) := by
  have hg : 0 < Nat.gcd d (Nat.gcd a b) := Nat.gcd_pos_of_pos_left _ hd
  have e1 : Nat.gcd (Nat.gcd d a) (Nat.gcd d b) = Nat.gcd d (Nat.gcd a b) := by
    apply Nat.dvd_antisymm
    · refine Nat.dvd_gcd (Nat.dvd_trans (Nat.gcd_dvd_left _ _) (Nat.gcd_dvd_left _ _)) (Nat.dvd_gcd ?_ ?_)
      · exact Nat.dvd_trans (Nat.gcd_dvd_left _ _) (Nat.gcd_dvd_right _ _)
      · exact Nat.dvd_trans (Nat.gcd_dvd_right _ _) (Nat.gcd_dvd_right _ _)
    · refine Nat.dvd_gcd (Nat.dvd_gcd (Nat.gcd_dvd_left _ _) ?_) (Nat.dvd_gcd (Nat.gcd_dvd_left _ _) ?_)
      · exact Nat.dvd_trans (Nat.gcd_dvd_right _ _) (Nat.gcd_dvd_left _ _)
      · exact Nat.dvd_trans (Nat.gcd_dvd_right _ _) (Nat.gcd_dvd_right _ _)
  have big : d * Nat.gcd d (Nat.gcd a b) ∣ Nat.gcd d a * Nat.gcd d b := by
    have e3 : Nat.gcd d a * Nat.gcd d b = Nat.gcd (Nat.gcd d a * d) (Nat.gcd d a * b) := (Nat.gcd_mul_left _ _ _).symm
    have e4 : Nat.gcd d a * b = Nat.gcd (d * b) (a * b) := (Nat.gcd_mul_right _ _ _).symm
    rw [e3]
    refine Nat.dvd_gcd ?_ ?_
    · rw [Nat.mul_comm (Nat.gcd d a) d]
      refine Nat.mul_dvd_mul_left d (Nat.dvd_gcd (Nat.gcd_dvd_left _ _) ?_)
      exact Nat.dvd_trans (Nat.gcd_dvd_right _ _) (Nat.gcd_dvd_left _ _)
    · rw [e4]
      refine Nat.dvd_gcd (Nat.mul_dvd_mul_left d (Nat.dvd_trans (Nat.gcd_dvd_right _ _) (Nat.gcd_dvd_right _ _))) ?_
      have z : Nat.lcm a b * Nat.gcd a b = a * b := by rw [Nat.mul_comm]; exact Nat.gcd_mul_lcm a b
      rw [← z]
      exact Nat.mul_dvd_mul h (Nat.gcd_dvd_right _ _)
  have z2 : Nat.gcd (Nat.gcd d a) (Nat.gcd d b) * Nat.lcm (Nat.gcd d a) (Nat.gcd d b) = Nat.gcd d a * Nat.gcd d b := Nat.gcd_mul_lcm _ _
  rw [← z2, e1, Nat.mul_comm d] at big
  exact Nat.dvd_of_mul_dvd_mul_left hg big
/-- what divides both lcm and m divides y once gcd (a, m) and gcd (b, m) do -/
theorem gcd_lcm_dvd {a b m : Nat} {y : Int} (hm : 0 < m) (h1 : ((Nat.gcd a m : Nat) : Int) ∣ y) (h2 : ((Nat.gcd b m : Nat) : Int) ∣ y) : ((Nat.gcd (Nat.lcm a b) m : Nat) : Int) ∣ y := by
  have hd : 0 < Nat.gcd (Nat.lcm a b) m := Nat.gcd_pos_of_pos_right _ hm
  have k := dvd_lcm_gcds hd (Nat.gcd_dvd_left (Nat.lcm a b) m)
  have p1 : Nat.gcd (Nat.gcd (Nat.lcm a b) m) a ∣ y.natAbs := by
    refine Nat.dvd_trans (Nat.dvd_gcd (Nat.gcd_dvd_right _ _) ?_) (Int.ofNat_dvd_left.mp h1)
    exact Nat.dvd_trans (Nat.gcd_dvd_left _ _) (Nat.gcd_dvd_right _ _)
  have p2 : Nat.gcd (Nat.gcd (Nat.lcm a b) m) b ∣ y.natAbs := by
    refine Nat.dvd_trans (Nat.dvd_gcd (Nat.gcd_dvd_right _ _) ?_) (Int.ofNat_dvd_left.mp h2)
    exact Nat.dvd_trans (Nat.gcd_dvd_left _ _) (Nat.gcd_dvd_right _ _)
  exact Int.ofNat_dvd_left.mpr (Nat.dvd_trans k (Nat.lcm_dvd p1 p2))
/-- Euclid, a turn at a time -/
theorem gcd_turn {a b : Int} (ha : 0 < a) (hb : 0 < b) : Int.gcd b (a % b) = Int.gcd a b := by
  rw [Int.gcd_comm b, Int.gcd_comm a]
  have e : a % b = a - b * (a / b) := by have := Int.emod_add_mul_ediv a b; omega
  rw [e]
  simp [Int.gcd_comm]
theorem gcd_pos' {n m : Int} (hn : 1 ≤ n) : 0 < (Int.gcd n m : Int) := by
  have : 0 < Int.gcd n m := Int.gcd_pos_of_ne_zero_left _ (by omega)
  omega
theorem lcm_eq {n m m1 : Int} (hn : 1 ≤ n) (hm : 1 ≤ m) (e : m = (Int.gcd n m : Int) * m1) : (Int.lcm n m : Int) = n * m1 := by
  have g0 := gcd_pos' (m := m) hn
  have k : ((Int.gcd n m * Int.lcm n m : Nat) : Int) = ((n * m).natAbs : Int) := by rw [Int.gcd_mul_lcm, Int.natAbs_mul]
  rw [Int.natCast_mul, Int.natAbs_of_nonneg (Int.mul_nonneg (by omega) (by omega))] at k
  refine Int.eq_of_mul_eq_mul_left (a := (Int.gcd n m : Int)) (by omega) ?_
  rw [k]
  conv => lhs; rw [e]
  rw [← Int.mul_assoc, ← Int.mul_assoc, Int.mul_comm n]
/-- put_together is right -/
theorem put_math {n r m s i : Int} (hn : 1 ≤ n) (hm : 1 ≤ m) (h : (s - r) % (Int.gcd n m : Int) = 0) (hi : (n / (Int.gcd n m : Int) * i - 1) % (m / (Int.gcd n m : Int)) = 0) :
    n * (m / (Int.gcd n m : Int)) = (Int.lcm n m : Int) ∧ 0 ≤ (r + n * ((s - r) / (Int.gcd n m : Int) * i % (m / (Int.gcd n m : Int)))) % (n * (m / (Int.gcd n m : Int))) ∧
    (r + n * ((s - r) / (Int.gcd n m : Int) * i % (m / (Int.gcd n m : Int)))) % (n * (m / (Int.gcd n m : Int))) < n * (m / (Int.gcd n m : Int)) ∧
    ((r + n * ((s - r) / (Int.gcd n m : Int) * i % (m / (Int.gcd n m : Int)))) % (n * (m / (Int.gcd n m : Int))) - r) % n = 0 ∧
    ((r + n * ((s - r) / (Int.gcd n m : Int) * i % (m / (Int.gcd n m : Int)))) % (n * (m / (Int.gcd n m : Int))) - s) % m = 0 := by
  have g0 := gcd_pos' (m := m) hn
  obtain ⟨n1, e1⟩ := Int.gcd_dvd_left (a := n) (b := m)
  obtain ⟨m1, e2⟩ := Int.gcd_dvd_right (a := n) (b := m)
  have hl := lcm_eq hn hm e2
  generalize (Int.gcd n m : Int) = g at *
  have d1 : n / g = n1 := by rw [e1]; exact Int.mul_ediv_cancel_left _ (by omega)
  have d2 : m / g = m1 := by rw [e2]; exact Int.mul_ediv_cancel_left _ (by omega)
  obtain ⟨t, e3⟩ := Int.dvd_of_emod_eq_zero h
  have d3 : (s - r) / g = t := by rw [e3]; exact Int.mul_ediv_cancel_left _ (by omega)
  rw [d1, d2] at hi
  rw [d2, d3]
  obtain ⟨u, e4⟩ := Int.dvd_of_emod_eq_zero hi
  have m1p : 0 < m1 := by
    rcases Int.lt_or_le 0 m1 with z | z
    · exact z
    · have : g * m1 ≤ 0 := Int.mul_nonpos_of_nonneg_of_nonpos (by omega) z
      omega
  have wp : 0 < n * m1 := Int.mul_pos (by omega) m1p
  obtain ⟨v, e5⟩ : ∃ v, t * i % m1 = t * i - m1 * v := ⟨t * i / m1, by have := Int.emod_add_mul_ediv (t * i) m1; omega⟩
  obtain ⟨y, e6⟩ : ∃ y, (r + n * (t * i % m1)) % (n * m1) = r + n * (t * i % m1) - n * m1 * y := ⟨(r + n * (t * i % m1)) / (n * m1), by have := Int.emod_add_mul_ediv (r + n * (t * i % m1)) (n * m1); omega⟩
  refine ⟨hl.symm, Int.emod_nonneg _ (by omega), Int.emod_lt_of_pos _ wp, ?_, ?_⟩
  · rw [e6]
    have : r + n * (t * i % m1) - n * m1 * y - r = n * (t * i % m1 - m1 * y) := by rw [Int.mul_sub, Int.mul_assoc]; omega
    rw [this]
    exact Int.mul_emod_right _ _
  · rw [e6, e5]
    have e7 : s = r + g * t := by omega
    have e8 : n1 * i = 1 + m1 * u := by omega
    have : r + n * (t * i - m1 * v) - n * m1 * y - s = m * (u * t - n1 * v - n1 * y) := by
      rw [e7, e2]
      have a1 : n * (t * i) = g * t * (n1 * i) := by rw [e1]; ac_rfl
      have a2 : n * (m1 * v) = g * m1 * (n1 * v) := by rw [e1]; ac_rfl
      have a3 : n * m1 * y = g * m1 * (n1 * y) := by rw [e1]; ac_rfl
      have a4 : g * t * (m1 * u) = g * m1 * (u * t) := by ac_rfl
      rw [Int.mul_sub, a1, a2, a3, e8, Int.mul_add, a4, Int.mul_one, Int.mul_sub, Int.mul_sub]
      omega
    rw [this]
    exact Int.mul_emod_right _ _
/-- the least number that all rounds divide -/
noncomputable def lcmL : List (Int × Int) → Int
  | [] => 1
  | p :: ps => Int.lcm (lcmL ps) p.1
noncomputable def Fits (ps : List (Int × Int)) (x : Int) : Prop := ∀ p ∈ ps, (x - p.2) % p.1 = 0
/-- two rounds that bar each other -/
noncomputable def Bars (p q : Int × Int) : Prop := (q.2 - p.2) % (Int.gcd p.1 q.1 : Int) ≠ 0
/-- the first that bars, or the answer -/
noncomputable def First (ps : List (Int × Int)) (i j : Nat) : Prop := i < j ∧ (∃ p q, ps[i]? = some p ∧ ps[j]? = some q ∧ Bars p q) ∧ ∀ (i' j' : Nat) (p q : Int × Int), i' < j' → (i' < i ∨ (i' = i ∧ j' < j)) → ps[i']? = some p → ps[j']? = some q → ¬ Bars p q
noncomputable def NoBar (ps : List (Int × Int)) : Prop := ∀ (i j : Nat) (p q : Int × Int), i < j → ps[i]? = some p → ps[j]? = some q → ¬ Bars p q

theorem dvd_of_mod {a b : Int} (h : a % b = 0) : b ∣ a := Int.dvd_of_emod_eq_zero h
theorem lcmL_pos : ∀ {ps : List (Int × Int)}, (∀ p ∈ ps, 1 ≤ p.1) → 1 ≤ lcmL ps
  | [], _ => by decide
  | p :: ps, h => by
    have h1 := lcmL_pos (ps := ps) fun q hq => h q (List.mem_cons_of_mem _ hq)
    have h2 := h p List.mem_cons_self
    have z : Int.lcm (lcmL ps) p.1 ≠ 0 := by
      unfold Int.lcm
      exact Nat.ne_of_gt (Nat.lcm_pos (by omega) (by omega))
    unfold lcmL
    omega
theorem lcmL_le {B : Int} : ∀ {ps : List (Int × Int)}, (∀ p ∈ ps, 1 ≤ p.1 ∧ p.1 ≤ B) → lcmL ps ≤ B ^ ps.length
  | [], _ => by simp [lcmL]
  | p :: ps, h => by
    have h1 := lcmL_le (ps := ps) fun q hq => h q (List.mem_cons_of_mem _ hq)
    have h0 := lcmL_pos (ps := ps) fun q hq => (h q (List.mem_cons_of_mem _ hq)).1
    have h2 := h p List.mem_cons_self
    have k : Int.lcm (lcmL ps) p.1 ≤ (lcmL ps).natAbs * p.1.natAbs := Nat.le_of_dvd (Nat.mul_pos (by omega) (by omega)) (Nat.lcm_dvd_mul _ _)
    have k2 : (Int.lcm (lcmL ps) p.1 : Int) ≤ lcmL ps * p.1 := by
      have := Int.ofNat_le.mpr k
      rw [Int.natCast_mul, Int.natAbs_of_nonneg (by omega), Int.natAbs_of_nonneg (by omega)] at this
      exact this
    show (Int.lcm (lcmL ps) p.1 : Int) ≤ B ^ (ps.length + 1)
    rw [Int.pow_succ]
    exact Int.le_trans k2 (Int.mul_le_mul h1 h2.2 (by omega) (Int.le_trans (by omega) h1))
theorem fit_step {m s x : Int} (hm : 1 ≤ m) : ∀ {ps : List (Int × Int)}, (∀ p ∈ ps, 1 ≤ p.1) → Fits ps x → (∀ p ∈ ps, (s - p.2) % (Int.gcd p.1 m : Int) = 0) → (s - x) % (Int.gcd (lcmL ps) m : Int) = 0
  | [], _, _, _ => by
    have e : Int.gcd (lcmL []) m = 1 := by simp [lcmL]
    rw [e]; simp
  | p :: ps, h, hx, hb => by
    have i1 := fit_step hm (ps := ps) (fun q hq => h q (List.mem_cons_of_mem _ hq)) (fun q hq => hx q (List.mem_cons_of_mem _ hq)) (fun q hq => hb q (List.mem_cons_of_mem _ hq))
    have h1 := dvd_of_mod i1
    have h2 := dvd_of_mod (hb p List.mem_cons_self)
    have h3 := dvd_of_mod (hx p List.mem_cons_self)
    have h4 : (Int.gcd p.1 m : Int) ∣ s - x := by
      have z := Int.dvd_sub h2 (Int.dvd_trans (Int.gcd_dvd_left (a := p.1) (b := m)) h3)
      rwa [show s - p.2 - (x - p.2) = s - x by omega] at z
    refine Int.emod_eq_zero_of_dvd ?_
    exact gcd_lcm_dvd (a := (lcmL ps).natAbs) (b := p.1.natAbs) (m := m.natAbs) (by omega) h1 h4
theorem gcd_div_one {n m : Int} (hn : 1 ≤ n) : Int.gcd (n / (Int.gcd n m : Int)) (m / (Int.gcd n m : Int)) = 1 := by
  have g0 := gcd_pos' (m := m) hn
  obtain ⟨n1, e1⟩ := Int.gcd_dvd_left (a := n) (b := m)
  obtain ⟨m1, e2⟩ := Int.gcd_dvd_right (a := n) (b := m)
  have d1 : n / (Int.gcd n m : Int) = n1 := by
    generalize (Int.gcd n m : Int) = g at *
    rw [e1]; exact Int.mul_ediv_cancel_left _ (by omega)
  have d2 : m / (Int.gcd n m : Int) = m1 := by
    generalize (Int.gcd n m : Int) = g at *
    rw [e2]; exact Int.mul_ediv_cancel_left _ (by omega)
  rw [d1, d2]
  have k : Int.gcd n m = Int.gcd n m * Int.gcd n1 m1 := by
    have z : Int.gcd ((Int.gcd n m : Int) * n1) ((Int.gcd n m : Int) * m1) = Int.gcd n m * Int.gcd n1 m1 := by rw [Int.gcd_mul_left]; simp
    rw [← e1, ← e2] at z
    exact z
  have p : 0 < Int.gcd n m := by omega
  have q : Int.gcd n m * 1 = Int.gcd n m * Int.gcd n1 m1 := by omega
  exact (Nat.eq_of_mul_eq_mul_left p q).symm
theorem dvd_lcmL : ∀ {ps : List (Int × Int)} {p : Int × Int}, p ∈ ps → p.1 ∣ lcmL ps
  | q :: ps, p, h => by
    show p.1 ∣ (Int.lcm (lcmL ps) q.1 : Int)
    rcases List.mem_cons.mp h with rfl | h
    · exact Int.dvd_lcm_right _ _
    · exact Int.dvd_trans (dvd_lcmL h) (Int.dvd_lcm_left _ _)
theorem fits_more {ps : List (Int × Int)} {x y : Int} (h : Fits ps x) (hy : (y - x) % lcmL ps = 0) : Fits ps y := fun p hp => by
  have h1 := Int.dvd_trans (dvd_lcmL hp) (dvd_of_mod hy)
  have h2 := dvd_of_mod (h p hp)
  have z := Int.dvd_add h1 h2
  rw [show y - x + (x - p.2) = y - p.2 by omega] at z
  exact Int.emod_eq_zero_of_dvd z
theorem pow_small {k : Nat} (h : k ≤ 6) : (999999 : Int) ^ k ≤ 10 ^ 40 := by
  have : k = 0 ∨ k = 1 ∨ k = 2 ∨ k = 3 ∨ k = 4 ∨ k = 5 ∨ k = 6 := by omega
  rcases this with rfl | rfl | rfl | rfl | rfl | rfl | rfl <;> decide
end K10
/-! K41m: the mathematics: two pieces side by side. -/
namespace K41
open K10 (gcd_pos' lcm_eq gcd_turn dvd_of_mod)
theorem bez (a b : Nat) : ∃ x y : Int, (a : Int) * x + (b : Int) * y = (Nat.gcd a b : Nat) := by
  induction a, b using Nat.gcd.induction with
  | H0 n => exact ⟨0, 1, by simp⟩
  | H1 m n hm ih =>
    obtain ⟨x, y, e⟩ := ih
    rw [← Nat.gcd_rec] at e
    refine ⟨y - (n / m : Nat) * x, x, ?_⟩
    rw [← e]
    have k : ((n % m : Nat) : Int) = (n : Int) - m * (n / m : Nat) := by
      have := Nat.mod_add_div n m
      have h2 : ((n % m + m * (n / m) : Nat) : Int) = (n : Int) := by rw [this]
      rw [Int.natCast_add, Int.natCast_mul] at h2
      omega
    rw [k, Int.mul_sub, Int.sub_mul, ← Int.mul_assoc]
    omega
/-- a number that leaves both rests -/
theorem crt {n m s b : Int} (hn : 1 ≤ n) (hm : 1 ≤ m) (h : (b - s) % (Int.gcd n m : Int) = 0) : ∃ x, 0 ≤ x ∧ (x - s) % n = 0 ∧ (x - b) % m = 0 := by
  obtain ⟨x, y, e⟩ := bez n.toNat m.toNat
  have en : ((n.toNat : Nat) : Int) = n := by omega
  have em : ((m.toNat : Nat) : Int) = m := by omega
  have eg : Nat.gcd n.toNat m.toNat = Int.gcd n m := by
    unfold Int.gcd
    rw [show n.toNat = n.natAbs by omega, show m.toNat = m.natAbs by omega]
  rw [en, em, eg] at e
  obtain ⟨t, ht⟩ := dvd_of_mod h
  have e2 : (Int.gcd n m : Int) * t = n * (x * t) + m * (y * t) := by rw [← e, Int.add_mul, Int.mul_assoc, Int.mul_assoc]
  have L : 0 < n * m := Int.mul_pos (by omega) (by omega)
  refine ⟨(s + n * (x * t)) % (n * m), Int.emod_nonneg _ (by omega), ?_, ?_⟩
  · refine Int.emod_eq_zero_of_dvd ?_
    have z := Int.emod_add_mul_ediv (s + n * (x * t)) (n * m)
    refine ⟨x * t - m * ((s + n * (x * t)) / (n * m)), ?_⟩
    rw [Int.mul_sub, ← Int.mul_assoc n m]
    omega
  · refine Int.emod_eq_zero_of_dvd ?_
    have z := Int.emod_add_mul_ediv (s + n * (x * t)) (n * m)
    refine ⟨-(y * t) - n * ((s + n * (x * t)) / (n * m)), ?_⟩
    rw [Int.mul_sub, ← Int.mul_assoc m n, Int.mul_comm m n, Int.mul_neg]
    omega
/-! ### pieces -/
noncomputable def PieceOk (p : Int × Int) : Prop := 1 ≤ p.1 ∧ p.1 ≤ 1440 ∧ 1 ≤ p.2 ∧ p.2 ≤ p.1
noncomputable def At (p : Int × Int) (s m : Int) : Prop := (m - s) % p.1 < p.2
noncomputable def Both (p : Int × Int) (s : Int) (q : Int × Int) (b m : Int) : Prop := At p s m ∧ At q b m
noncomputable instance (p : Int × Int) (s m : Int) : Decidable (At p s m) := by unfold At; infer_instance
noncomputable instance (p : Int × Int) (s : Int) (q : Int × Int) (b m : Int) : Decidable (Both p s q b m) := by unfold Both; infer_instance
noncomputable def IsFirst (p : Int × Int) (s : Int) (q : Int × Int) (b m : Int) : Prop := 0 ≤ m ∧ Both p s q b m ∧ ∀ m', 0 ≤ m' → m' < m → ¬ Both p s q b m'
noncomputable def Clash (p : Int × Int) (s : Int) (q : Int × Int) (b : Int) : Prop := (b - s) % (Int.gcd p.1 q.1 : Int) < p.2 ∨ (s - b) % (Int.gcd p.1 q.1 : Int) < q.2
theorem IsFirst.same {p q : Int × Int} {s b m m' : Int} (h : IsFirst p s q b m) (h' : IsFirst p s q b m') : m = m' := by
  rcases Int.lt_trichotomy m m' with z | z | z
  · exact absurd h.2.1 (h'.2.2 m h.1 z)
  · exact z
  · exact absurd h'.2.1 (h.2.2 m' h'.1 z)
/-- equal rests -/
theorem at_cong {p : Int × Int} {s m k : Int} (h : (m - k) % p.1 = 0) : At p s m ↔ At p s k := by
  have e : (m - s) % p.1 = (k - s) % p.1 := by
    have := Int.emod_emod_of_dvd (m - s) (Int.dvd_refl p.1)
    rw [show m - s = (k - s) + (m - k) by omega, Int.add_emod, h, Int.add_zero, Int.emod_emod_of_dvd _ (Int.dvd_refl _)]
  unfold At
  rw [e]
theorem both_min {p q : Int × Int} {s b : Int} (h : ∃ m, 0 ≤ m ∧ Both p s q b m) : ∃ m, IsFirst p s q b m := by
  obtain ⟨m, h0, hm⟩ := h
  have : ∀ n : Nat, (∃ k : Nat, k ≤ n ∧ Both p s q b k) → ∃ m, IsFirst p s q b m := by
    intro n
    induction n with
    | zero =>
      rintro ⟨k, hk, hb⟩
      have : k = 0 := by omega
      subst this
      exact ⟨0, by decide, hb, fun m' h1 h2 => by omega⟩
    | succ n ih =>
      rintro ⟨k, hk, hb⟩
      by_cases z : ∃ k : Nat, k ≤ n ∧ Both p s q b k
      · exact ih z
      · have : k = n + 1 := by
          by_cases w : k ≤ n
          · exact absurd ⟨k, w, hb⟩ z
          · omega
        subst this
        refine ⟨((n + 1 : Nat) : Int), by omega, hb, fun m' h1 h2 hb' => z ⟨m'.toNat, by omega, ?_⟩⟩
        rw [Int.toNat_of_nonneg h1]; exact hb'
  exact this m.toNat ⟨m.toNat, Nat.le_refl _, by rw [Int.toNat_of_nonneg h0]; exact hm⟩
theorem gcd_dvd_sub {n m x u s v b : Int} (hu : (x - s) % n = u) (hv : (x - b) % m = v) : (Int.gcd n m : Int) ∣ (b - s) - (u - v) := by
  have z1 := Int.emod_add_mul_ediv (x - s) n
  have z2 := Int.emod_add_mul_ediv (x - b) m
  rw [hu] at z1
  rw [hv] at z2
  have d1 := Int.dvd_trans (Int.gcd_dvd_left (a := n) (b := m)) (Int.dvd_mul_right n ((x - s) / n))
  have d2 := Int.dvd_trans (Int.gcd_dvd_right (a := n) (b := m)) (Int.dvd_mul_right m ((x - b) / m))
  have z := Int.dvd_sub d1 d2
  rwa [show n * ((x - s) / n) - m * ((x - b) / m) = (b - s) - (u - v) by omega] at z
theorem mod_le_of {a c g : Int} (hg : 0 < g) (hc : 0 ≤ c) (h : g ∣ a - c) : a % g ≤ c := by
  have e : a % g = c % g := Int.emod_eq_emod_iff_emod_sub_eq_zero.mpr (Int.emod_eq_zero_of_dvd h)
  rw [e]
  have := Int.emod_add_mul_ediv c g
  have h2 : 0 ≤ g * (c / g) := Int.mul_nonneg (by omega) (Int.ediv_nonneg hc (by omega))
  omega
theorem clash_iff {p q : Int × Int} (hp : PieceOk p) (hq : PieceOk q) {s b : Int} : Clash p s q b ↔ ∃ m, 0 ≤ m ∧ Both p s q b m := by
  obtain ⟨p1, p2, p3, p4⟩ := hp
  obtain ⟨q1, q2, q3, q4⟩ := hq
  have g0 := gcd_pos' (m := q.1) p1
  have gp : (Int.gcd p.1 q.1 : Int) ≤ p.1 := Int.le_of_dvd (by omega) (Int.gcd_dvd_left (a := p.1) (b := q.1))
  have gq : (Int.gcd p.1 q.1 : Int) ≤ q.1 := Int.le_of_dvd (by omega) (Int.gcd_dvd_right (a := p.1) (b := q.1))
  constructor
  · rintro (h | h)
    · have d0 := Int.emod_nonneg (b - s) (show (Int.gcd p.1 q.1 : Int) ≠ 0 by omega)
      have d1 := Int.emod_lt_of_pos (b - s) g0
      obtain ⟨x, x0, x1, x2⟩ := crt (n := p.1) (m := q.1) (s := s + (b - s) % (Int.gcd p.1 q.1 : Int)) (b := b) p1 q1 (by
        have z := Int.emod_add_mul_ediv (b - s) (Int.gcd p.1 q.1 : Int)
        refine Int.emod_eq_zero_of_dvd ⟨(b - s) / (Int.gcd p.1 q.1 : Int), by omega⟩)
      refine ⟨x, x0, ?_, ?_⟩
      · unfold At
        have : (x - s) % p.1 ≤ (b - s) % (Int.gcd p.1 q.1 : Int) := mod_le_of (by omega) d0 (by
          have := dvd_of_mod x1
          rwa [show x - (s + (b - s) % (Int.gcd p.1 q.1 : Int)) = x - s - (b - s) % (Int.gcd p.1 q.1 : Int) by omega] at this)
        omega
      · unfold At; rw [x2]; omega
    · have d0 := Int.emod_nonneg (s - b) (show (Int.gcd p.1 q.1 : Int) ≠ 0 by omega)
      obtain ⟨x, x0, x1, x2⟩ := crt (n := p.1) (m := q.1) (s := s) (b := b + (s - b) % (Int.gcd p.1 q.1 : Int)) p1 q1 (by
        have z := Int.emod_add_mul_ediv (s - b) (Int.gcd p.1 q.1 : Int)
        refine Int.emod_eq_zero_of_dvd ⟨-((s - b) / (Int.gcd p.1 q.1 : Int)), by rw [Int.mul_neg]; omega⟩)
      refine ⟨x, x0, ?_, ?_⟩
      · unfold At; rw [x1]; omega
      · unfold At
        have : (x - b) % q.1 ≤ (s - b) % (Int.gcd p.1 q.1 : Int) := mod_le_of (by omega) d0 (by
          have := dvd_of_mod x2
          rwa [show x - (b + (s - b) % (Int.gcd p.1 q.1 : Int)) = x - b - (s - b) % (Int.gcd p.1 q.1 : Int) by omega] at this)
        omega
  · rintro ⟨x, x0, h1, h2⟩
    have u0 := Int.emod_nonneg (x - s) (show p.1 ≠ 0 by omega)
    have v0 := Int.emod_nonneg (x - b) (show q.1 ≠ 0 by omega)
    have d := gcd_dvd_sub (n := p.1) (m := q.1) (x := x) (s := s) (b := b) rfl rfl
    unfold At at h1 h2
    by_cases z : (x - b) % q.1 ≤ (x - s) % p.1
    · left
      have := mod_le_of (a := b - s) (c := (x - s) % p.1 - (x - b) % q.1) g0 (by omega) d
      omega
    · right
      have d' := Int.dvd_neg.mpr d
      rw [show -((b - s) - ((x - s) % p.1 - (x - b) % q.1)) = (s - b) - ((x - b) % q.1 - (x - s) % p.1) by omega] at d'
      have := mod_le_of (a := s - b) (c := (x - b) % q.1 - (x - s) % p.1) g0 (by omega) d'
      omega
/-- a common minute is there within the first round of both -/
theorem first_lt {p q : Int × Int} (hp : PieceOk p) (hq : PieceOk q) {s b m : Int} (h : IsFirst p s q b m) : m < (Int.lcm p.1 q.1 : Int) := by
  have l0 : 0 < (Int.lcm p.1 q.1 : Int) := by
    have := Nat.lcm_pos (m := p.1.natAbs) (n := q.1.natAbs) (by have := hp.1; omega) (by have := hq.1; omega)
    have e : Int.lcm p.1 q.1 = Nat.lcm p.1.natAbs q.1.natAbs := rfl
    omega
  rcases Int.lt_or_le m (Int.lcm p.1 q.1 : Int) with z | z
  · exact z
  · exfalso
    refine h.2.2 (m - (Int.lcm p.1 q.1 : Int)) (by omega) (by omega) ⟨(at_cong ?_).mp h.2.1.1, (at_cong ?_).mp h.2.1.2⟩
    · rw [show m - (m - (Int.lcm p.1 q.1 : Int)) = (Int.lcm p.1 q.1 : Int) by omega]
      exact Int.emod_eq_zero_of_dvd (Int.dvd_lcm_left _ _)
    · rw [show m - (m - (Int.lcm p.1 q.1 : Int)) = (Int.lcm p.1 q.1 : Int) by omega]
      exact Int.emod_eq_zero_of_dvd (Int.dvd_lcm_right _ _)
/-- the first common minute is a beginning of one of both, or minute 0 -/
theorem first_at {p q : Int × Int} (hp : PieceOk p) (hq : PieceOk q) {s b m : Int} (h : IsFirst p s q b m) (h0 : 0 < m) : (m - s) % p.1 = 0 ∨ (m - b) % q.1 = 0 := by
  have back : ∀ {p : Int × Int} {s : Int}, PieceOk p → At p s m → (m - s) % p.1 ≠ 0 → At p s (m - 1) := by
    intro p s hp ha hz
    obtain ⟨p1, p2, p3, p4⟩ := hp
    unfold At at *
    have u0 := Int.emod_nonneg (m - s) (show p.1 ≠ 0 by omega)
    have := mod_le_of (a := m - 1 - s) (c := (m - s) % p.1 - 1) (g := p.1) (by omega) (by omega) (by
      have z := Int.emod_add_mul_ediv (m - s) p.1
      exact ⟨(m - s) / p.1, by omega⟩)
    omega
  by_cases z1 : (m - s) % p.1 = 0
  · exact .inl z1
  · by_cases z2 : (m - b) % q.1 = 0
    · exact .inr z2
    · exact absurd ⟨back hp h.2.1.1 z1, back hq h.2.1.2 z2⟩ (h.2.2 (m - 1) (by omega) (by omega))
/-- that beginning's lap -/
theorem first_lap {p q : Int × Int} (hp : PieceOk p) (hq : PieceOk q) {s b m : Int} (s0 : 0 ≤ s) (s1 : s < p.1) (h : IsFirst p s q b m) (hz : (m - s) % p.1 = 0) : ∃ k : Nat, (k : Int) < q.1 / (Int.gcd p.1 q.1 : Int) ∧ m = s + p.1 * k := by
  obtain ⟨p1, p2, p3, p4⟩ := hp
  obtain ⟨k, hk⟩ := dvd_of_mod hz
  have hlt := first_lt ⟨p1, p2, p3, p4⟩ hq h
  obtain ⟨m1, e2⟩ := Int.gcd_dvd_right (a := p.1) (b := q.1)
  have g0 := gcd_pos' (m := q.1) p1
  rw [lcm_eq p1 hq.1 e2] at hlt
  have d2 : q.1 / (Int.gcd p.1 q.1 : Int) = m1 := by
    generalize (Int.gcd p.1 q.1 : Int) = g at *
    rw [e2]; exact Int.mul_ediv_cancel_left _ (by omega)
  rw [d2]
  have m0 := h.1
  have k0 : 0 ≤ k := by
    rcases Int.lt_or_le k 0 with z | z
    · have : p.1 * k ≤ p.1 * (-1) := Int.mul_le_mul_of_nonneg_left (by omega) (by omega)
      omega
    · exact z
  have k1 : k < m1 := by
    rcases Int.lt_or_le k m1 with z | z
    · exact z
    · have : p.1 * m1 ≤ p.1 * k := Int.mul_le_mul_of_nonneg_left z (by omega)
      omega
  exact ⟨k.toNat, by omega, by rw [Int.toNat_of_nonneg k0]; omega⟩
/-- there is room exactly if some beginnings do not clash -/
theorem no_clash_room {p q : Int × Int} (hp : PieceOk p) (hq : PieceOk q) {s b : Int} (h : ¬ Clash p s q b) : p.2 + q.2 ≤ (Int.gcd p.1 q.1 : Int) := by
  have g0 := gcd_pos' (m := q.1) hp.1
  unfold Clash at h
  have h1 : p.2 ≤ (b - s) % (Int.gcd p.1 q.1 : Int) := by omega
  have h2 : q.2 ≤ (s - b) % (Int.gcd p.1 q.1 : Int) := by omega
  have z1 := Int.emod_add_mul_ediv (b - s) (Int.gcd p.1 q.1 : Int)
  have d1 := Int.emod_lt_of_pos (b - s) g0
  have := mod_le_of (a := s - b) (c := (Int.gcd p.1 q.1 : Int) - (b - s) % (Int.gcd p.1 q.1 : Int)) g0 (by omega) ⟨-((b - s) / (Int.gcd p.1 q.1 : Int)) - 1, by rw [Int.mul_sub, Int.mul_neg]; omega⟩
  omega
theorem room_free {p q : Int × Int} (hp : PieceOk p) (hq : PieceOk q) (h : p.2 + q.2 ≤ (Int.gcd p.1 q.1 : Int)) : ¬ Clash p 0 q p.2 ∧ p.2 < q.1 := by
  have g0 := gcd_pos' (m := q.1) hp.1
  have gq : (Int.gcd p.1 q.1 : Int) ≤ q.1 := Int.le_of_dvd (by have := hq.1; omega) (Int.gcd_dvd_right (a := p.1) (b := q.1))
  obtain ⟨p1, p2, p3, p4⟩ := hp
  obtain ⟨q1, q2, q3, q4⟩ := hq
  refine ⟨?_, by omega⟩
  unfold Clash
  have e1 : (p.2 - 0) % (Int.gcd p.1 q.1 : Int) = p.2 := by rw [Int.sub_zero]; exact Int.emod_eq_of_lt (by omega) (by omega)
  have e2 : (0 - p.2) % (Int.gcd p.1 q.1 : Int) = (Int.gcd p.1 q.1 : Int) - p.2 := by
    rw [show (0 - p.2 : Int) = ((Int.gcd p.1 q.1 : Int) - p.2) + (Int.gcd p.1 q.1 : Int) * (-1) by rw [Int.mul_neg]; omega, Int.add_mul_emod_self_left]
    exact Int.emod_eq_of_lt (by omega) (by omega)
  rw [e1, e2]
  omega
/-! ### the first of all pairs -/
noncomputable def First {Z : Type} (C : Z → Z → Prop) (zs : List Z) (i j : Nat) : Prop := i < j ∧ (∃ p q, zs[i]? = some p ∧ zs[j]? = some q ∧ C p q) ∧ ∀ (i' j' : Nat) (p q : Z), i' < j' → (i' < i ∨ (i' = i ∧ j' < j)) → zs[i']? = some p → zs[j']? = some q → ¬ C p q
noncomputable def NoBar {Z : Type} (C : Z → Z → Prop) (zs : List Z) : Prop := ∀ (i j : Nat) (p q : Z), i < j → zs[i]? = some p → zs[j]? = some q → ¬ C p q
theorem First.same {Z : Type} {C : Z → Z → Prop} {ps : List Z} {i j i' j' : Nat} (h : First C ps i j) (h' : First C ps i' j') : i = i' ∧ j = j' := by
  obtain ⟨a1, ⟨p, q, a2, a3, a4⟩, a5⟩ := h
  obtain ⟨b1, ⟨p', q', b2, b3, b4⟩, b5⟩ := h'
  have x : ¬ (i < i' ∨ (i = i' ∧ j < j')) := fun z => b5 i j p q a1 z a2 a3 a4
  have y : ¬ (i' < i ∨ (i' = i ∧ j' < j)) := fun z => a5 i' j' p' q' b1 z b2 b3 b4
  omega
theorem First.bar {Z : Type} {C : Z → Z → Prop} {ps : List Z} {i j : Nat} (h : First C ps i j) (nb : NoBar C ps) : False := by
  obtain ⟨a1, ⟨p, q, a2, a3, a4⟩, a5⟩ := h
  exact nb i j p q a1 a2 a3 a4
/-! ### frames -/
/-- one step of a frame -/
noncomputable def frS (i : Nat) (e : Int) (f : Int) (j : Nat) (q : Int × Int) : Int := if j = i then f else (Int.lcm f (Int.gcd e q.1) : Int)
noncomputable def frA (i : Nat) (e : Int) : Nat → List (Int × Int) → Int → Int
  | _, [], f => f
  | j, q :: qs, f => frA i e (j + 1) qs (frS i e f j q)
noncomputable def frs (ps : List (Int × Int)) : Nat → List (Int × Int) → List Int
  | _, [] => []
  | i, p :: rest => frA i p.1 0 ps 1 :: frs ps (i + 1) rest
theorem frS_le {i j : Nat} {e f : Int} {q : Int × Int} (he : 1 ≤ e) (he2 : e ≤ 1440) (hf : 1 ≤ f) : 1 ≤ frS i e f j q ∧ frS i e f j q ≤ f * 1440 := by
  unfold frS
  split
  · omega
  · have g0 := gcd_pos' (m := q.1) he
    have g1 : (Int.gcd e q.1 : Int) ≤ e := Int.le_of_dvd (by omega) (Int.gcd_dvd_left (a := e) (b := q.1))
    have l0 := Nat.lcm_pos (m := f.natAbs) (n := Int.gcd e q.1) (by omega) (by omega)
    have l1 : Nat.lcm f.natAbs (Int.gcd e q.1) ≤ f.natAbs * Int.gcd e q.1 := Nat.le_of_dvd (Nat.mul_pos (by omega) (by omega)) (Nat.lcm_dvd_mul _ _)
    have e1 : Int.lcm f (Int.gcd e q.1 : Int) = Nat.lcm f.natAbs (Int.gcd e q.1) := rfl
    rw [e1]
    refine ⟨by omega, ?_⟩
    have l2 : ((Nat.lcm f.natAbs (Int.gcd e q.1) : Nat) : Int) ≤ f * (Int.gcd e q.1 : Int) := by
      have := Int.ofNat_le.mpr l1
      rw [Int.natCast_mul, Int.natAbs_of_nonneg (by omega)] at this
      exact this
    exact Int.le_trans l2 (Int.mul_le_mul_of_nonneg_left (by omega) (by omega))
theorem frA_le {i : Nat} {e : Int} (he : 1 ≤ e) (he2 : e ≤ 1440) : ∀ (qs : List (Int × Int)) (j : Nat) (f : Int), 1 ≤ f → 1 ≤ frA i e j qs f ∧ frA i e j qs f ≤ f * 1440 ^ qs.length
  | [], j, f, hf => by simp [frA, hf]
  | q :: qs, j, f, hf => by
    obtain ⟨h1, h2⟩ := frS_le (i := i) (j := j) (q := q) he he2 hf
    obtain ⟨h3, h4⟩ := frA_le he he2 qs (j + 1) _ h1
    refine ⟨h3, Int.le_trans h4 ?_⟩
    rw [List.length_cons, Int.pow_succ, Int.mul_comm (1440 ^ qs.length) 1440, ← Int.mul_assoc]
    exact Int.mul_le_mul_of_nonneg_right h2 (Int.pow_nonneg (by decide))
end K41
/-! K45m: pieces of one factor; the cases of placing as leaves of a tree. -/
namespace K45
open K10 (gcd_pos' lcm_eq gcd_turn dvd_of_mod)
open K41 (PieceOk At Both IsFirst Clash clash_iff both_min first_at at_cong First NoBar frS frA frs frS_le frA_le no_clash_room mod_le_of)
noncomputable abbrev ZZ : Type := (Int × Int) × Int
noncomputable def zC (x y : ZZ) : Prop := Clash x.1 x.2 y.1 y.2
noncomputable instance (x y : ZZ) : Decidable (zC x y) := by unfold zC Clash; infer_instance
/-- beginnings below the frames, the first 0 -/
noncomputable def Begun (ps : List (Int × Int)) (ss : List Int) : Prop := ss.length ≤ ps.length ∧ (∀ s, ss[0]? = some s → s = 0) ∧ ∀ (i : Nat) (s f : Int), ss[i]? = some s → (frs ps 0 ps)[i]? = some f → 0 ≤ s ∧ s < f
/-- the i-th clashes with the last one -/
noncomputable def clB1 (zs : List ZZ) (i : Nat) : Bool := match zs[i]?, zs[zs.length - 1]? with
  | some x, some y => decide (zC x y)
  | _, _ => false
/-- the first piece that clashes with the last one begun -/
noncomputable def clashAt (ps : List (Int × Int)) (ss : List Int) : Option Nat := (List.range (ss.length - 1)).find? (clB1 (ps.zip ss))
noncomputable def kidsL (b : List Int) (lo n : Nat) : List (List Int) := (List.range n).map fun i : Nat => b ++ [((lo + i : Nat) : Int)]
theorem kidsL_succ (b : List Int) (lo n : Nat) : kidsL b lo (n + 1) = (b ++ [(lo : Int)]) :: kidsL b (lo + 1) n := by
  unfold kidsL
  rw [List.range_succ_eq_map, List.map_cons, List.map_map]
  congr 1
  refine List.map_congr_left fun i _ => ?_
  show b ++ [((lo + (i + 1) : Nat) : Int)] = b ++ [((lo + 1 + i : Nat) : Int)]
  rw [show lo + (i + 1) = lo + 1 + i by omega]
theorem kidsL_snoc (b : List Int) (lo n : Nat) : kidsL b lo (n + 1) = kidsL b lo n ++ [b ++ [((lo + n : Nat) : Int)]] := by
  unfold kidsL
  rw [List.range_succ, List.map_append]
  rfl
theorem mem_kids {b c : List Int} {lo n : Nat} : c ∈ kidsL b lo n ↔ ∃ i : Nat, i < n ∧ c = b ++ [((lo + i : Nat) : Int)] := by
  unfold kidsL
  rw [List.mem_map]
  constructor
  · rintro ⟨i, hi, rfl⟩; exact ⟨i, List.mem_range.mp hi, rfl⟩
  · rintro ⟨i, hi, rfl⟩; exact ⟨i, List.mem_range.mpr hi, rfl⟩
/-- as many as can begin next -/
noncomputable def szN (ps : List (Int × Int)) (b : List Int) : Nat := (((frs ps 0 ps)[b.length]?).getD 0).toNat
/-- the cases below a beginning, as they are found -/
noncomputable def leaves (ps : List (Int × Int)) : Nat → List Int → List (List Int × Nat)
  | 0, b => (match clashAt ps b with | some i => [(b, i)] | none => [])
  | k + 1, b => (match clashAt ps b with | some i => [(b, i)] | none => (kidsL b 0 (szN ps b)).flatMap (leaves ps k))
theorem leaves_some {ps : List (Int × Int)} {b : List Int} {i : Nat} (h : clashAt ps b = some i) (k : Nat) : leaves ps k b = [(b, i)] := by
  cases k <;> simp only [leaves, h]
theorem leaves_0 {ps : List (Int × Int)} {b : List Int} (h : clashAt ps b = none) : leaves ps 0 b = [] := by simp only [leaves, h]
theorem leaves_on {ps : List (Int × Int)} {b : List Int} (h : clashAt ps b = none) (k : Nat) : leaves ps (k + 1) b = (kidsL b 0 (szN ps b)).flatMap (leaves ps k) := by simp only [leaves, h]
theorem leaf_at {ps : List (Int × Int)} : ∀ (k : Nat) (b : List Int) {c : List Int} {i : Nat}, (c, i) ∈ leaves ps k b → clashAt ps c = some i ∧ c.take b.length = b ∧ b.length ≤ c.length ∧ c.length ≤ b.length + k
  | k, b, c, i, h => by
    cases hc : clashAt ps b with
    | some j =>
      rw [leaves_some hc] at h
      cases List.mem_singleton.mp h
      exact ⟨hc, List.take_length, Nat.le_refl _, Nat.le_add_right ..⟩
    | none =>
      cases k with
      | zero => rw [leaves_0 hc] at h; cases h
      | succ k =>
        rw [leaves_on hc] at h
        obtain ⟨d, hd, h⟩ := List.mem_flatMap.mp h
        obtain ⟨j, hj, rfl⟩ := mem_kids.mp hd
        obtain ⟨h1, h2, h3, h4⟩ := leaf_at k _ h
        rw [List.length_append, List.length_singleton] at h2 h3 h4
        refine ⟨h1, ?_, by omega, by omega⟩
        have := congrArg (List.take b.length) h2
        rw [List.take_take, Nat.min_eq_left (by omega), List.take_left'  rfl] at this
        exact this
theorem leaf_begun {ps : List (Int × Int)} : ∀ (k : Nat) (b : List Int) {c : List Int} {i : Nat}, b ≠ [] → b.length + k = ps.length → Begun ps b → (frs ps 0 ps).length = ps.length → (c, i) ∈ leaves ps k b → Begun ps c
  | k, b, c, i, hb, hk, hB, fl, h => by
    cases hc : clashAt ps b with
    | some j =>
      rw [leaves_some hc] at h
      cases List.mem_singleton.mp h
      exact hB
    | none =>
      cases k with
      | zero => rw [leaves_0 hc] at h; cases h
      | succ k =>
        rw [leaves_on hc] at h
        obtain ⟨d, hd, h⟩ := List.mem_flatMap.mp h
        obtain ⟨j, hj, rfl⟩ := mem_kids.mp hd
        have lp : 0 < b.length := List.length_pos_iff.mpr hb
        refine leaf_begun k _ (by simp) (by simp; omega) ?_ fl h
        obtain ⟨h1, h2, h3⟩ := hB
        refine ⟨by simp; omega, fun t ht => h2 t ?_, fun i t g ht hg => ?_⟩
        · rw [List.getElem?_append_left lp] at ht; exact ht
        · by_cases z : i < b.length
          · rw [List.getElem?_append_left z] at ht
            exact h3 i t g ht hg
          · have hi : i < (b ++ [((0 + j : Nat) : Int)]).length := (List.getElem?_eq_some_iff.mp ht).1
            have e : i = b.length := by simp at hi; omega
            subst e
            rw [List.getElem?_append_right (Nat.le_refl _), Nat.sub_self] at ht
            cases ht
            unfold szN at hj
            rw [hg] at hj
            simp only [Option.getD_some] at hj
            omega
theorem leaf_keys {ps : List (Int × Int)} : ∀ (k : Nat) (b : List Int), ((leaves ps k b).map (·.1)).Nodup
  | k, b => by
    cases hc : clashAt ps b with
    | some j => rw [leaves_some hc]; simp
    | none =>
      cases k with
      | zero => rw [leaves_0 hc]; exact List.nodup_nil
      | succ k =>
        rw [leaves_on hc]
        have go : ∀ (n lo : Nat), (((kidsL b lo n).flatMap (leaves ps k)).map (·.1)).Nodup := by
          intro n
          induction n with
          | zero => intro lo; exact List.nodup_nil
          | succ n ih =>
            intro lo
            rw [kidsL_succ, List.flatMap_cons, List.map_append]
            refine List.nodup_append.mpr ⟨leaf_keys k _, ih (lo + 1), fun x hx y hy e => ?_⟩
            subst e
            obtain ⟨⟨c, i⟩, hc1, e1⟩ := List.mem_map.mp hx
            obtain ⟨⟨d, j⟩, hd1, e2⟩ := List.mem_map.mp hy
            cases (show c = x from e1)
            cases (show d = x from e2)
            obtain ⟨f, hf, hd1⟩ := List.mem_flatMap.mp hd1
            obtain ⟨m, hm, rfl⟩ := mem_kids.mp hf
            have a := (leaf_at k _ hc1).2.1
            have a2 := (leaf_at k _ hd1).2.1
            rw [List.length_append, List.length_singleton] at a a2
            rw [a] at a2
            have := List.append_cancel_left a2
            simp at this
            omega
        exact go _ 0
/-! ### pieces of one factor -/
/-- any two have the factor g -/
noncomputable def OneG (g : Int) (ps : List (Int × Int)) : Prop := ∀ (i j : Nat) (p q : Int × Int), i ≠ j → ps[i]? = some p → ps[j]? = some q → (Int.gcd p.1 q.1 : Int) = g
noncomputable def sumL (ps : List (Int × Int)) : Int := (ps.map (·.2)).sum
theorem frA_one {g : Int} (g0 : 0 < g) {i : Nat} {e : Int} : ∀ (qs : List (Int × Int)) (j : Nat) (f : Int), (f = 1 ∨ f = g) → (∀ (k : Nat) (q : Int × Int), qs[k]? = some q → j + k ≠ i → (Int.gcd e q.1 : Int) = g) →
    (frA i e j qs f = g ∨ (frA i e j qs f = f ∧ ∀ k, k < qs.length → j + k = i))
  | [], j, f, hf, h => .inr ⟨rfl, fun k hk => by simp at hk⟩
  | q :: qs, j, f, hf, h => by
    have hl1 : (Int.lcm 1 g : Int) = g := by
      have : Int.lcm 1 g = g.natAbs := by simp [Int.lcm]
      omega
    have hlg : (Int.lcm g g : Int) = g := by
      have : Int.lcm g g = g.natAbs := by simp [Int.lcm]
      omega
    by_cases z : j = i
    · have e1 : frS i e f j q = f := by unfold frS; rw [if_pos z]
      show (frA i e (j + 1) qs (frS i e f j q) = g) ∨ (frA i e (j + 1) qs (frS i e f j q) = f ∧ _)
      rw [e1]
      rcases frA_one g0 qs (j + 1) f hf (fun (k : Nat) q' hq (hk : j + 1 + k ≠ i) => h (k + 1) q' hq (by omega)) with h1 | ⟨h1, h2⟩
      · exact .inl h1
      · refine .inr ⟨h1, fun k hk => ?_⟩
        cases k with
        | zero => omega
        | succ k => have := h2 k (by simpa using hk); omega
    · have e1 : frS i e f j q = g := by
        unfold frS
        rw [if_neg z, h 0 q rfl (by omega)]
        rcases hf with rfl | rfl
        · exact hl1
        · exact hlg
      show (frA i e (j + 1) qs (frS i e f j q) = g) ∨ _
      rw [e1]
      rcases frA_one g0 qs (j + 1) g (.inr rfl) (fun (k : Nat) q' hq (hk : j + 1 + k ≠ i) => h (k + 1) q' hq (by omega)) with h1 | ⟨h1, _⟩
      · exact .inl h1
      · exact .inl h1
theorem frs_one {g : Int} (g0 : 0 < g) {ps : List (Int × Int)} (h2 : 2 ≤ ps.length) (h : OneG g ps) : frs ps 0 ps = List.replicate ps.length g := by
  have go : ∀ (rest : List (Int × Int)) (i : Nat), (∀ (k : Nat) (p : Int × Int), rest[k]? = some p → ps[i + k]? = some p) → frs ps i rest = List.replicate rest.length g := by
    intro rest
    induction rest with
    | nil => intro i _; rfl
    | cons p rest ih =>
      intro i hr
      have hp := hr 0 p rfl
      have e1 : frA i p.1 0 ps 1 = g := by
        rcases frA_one g0 (i := i) (e := p.1) ps 0 1 (.inl rfl) (fun k q hq hk => h i k p q (by omega) hp hq) with h1 | ⟨_, h1⟩
        · exact h1
        · have a := h1 0 (by omega)
          have b := h1 1 (by omega)
          omega
      show frA i p.1 0 ps 1 :: frs ps (i + 1) rest = _
      rw [e1, ih (i + 1) fun k q hq => by
        have := hr (k + 1) q hq
        rwa [show i + (k + 1) = i + 1 + k by omega] at this]
      rfl
  exact go ps 0 fun k p hp => by rw [Nat.zero_add]; exact hp
/-- what the pieces take of a round of the factor -/
noncomputable def takenZ (g : Int) (z : ZZ) : List Int := (List.range z.1.2.toNat).map fun k : Nat => (z.2 + (k : Int)) % g
noncomputable def takenL (g : Int) (zs : List ZZ) : List Int := zs.flatMap (takenZ g)
theorem mem_taken {g : Int} {z : ZZ} {m : Int} : m ∈ takenZ g z ↔ ∃ k : Nat, k < z.1.2.toNat ∧ m = (z.2 + (k : Int)) % g := by
  unfold takenZ
  rw [List.mem_map]
  constructor
  · rintro ⟨i, hi, rfl⟩; exact ⟨i, List.mem_range.mp hi, rfl⟩
  · rintro ⟨i, hi, rfl⟩; exact ⟨i, List.mem_range.mpr hi, rfl⟩
theorem taken_nodup1 {g : Int} (g0 : 0 < g) {z : ZZ} (hl : z.1.2 ≤ g) : (takenZ g z).Nodup := by
  refine List.pairwise_map.mpr (List.Pairwise.imp_of_mem (fun {a b} ha hb h => ?_) List.nodup_range)
  have a1 := List.mem_range.mp ha
  have b1 := List.mem_range.mp hb
  intro e
  have d := Int.emod_eq_emod_iff_emod_sub_eq_zero.mp e
  obtain ⟨t, ht⟩ := dvd_of_mod d
  have : t = 0 := by
    rcases Int.lt_trichotomy t 0 with w | w | w
    · have := Int.mul_le_mul_of_nonneg_left (show t ≤ -1 by omega) (show 0 ≤ g by omega); omega
    · exact w
    · have := Int.mul_le_mul_of_nonneg_left (show 1 ≤ t by omega) (show 0 ≤ g by omega); omega
  subst this
  rw [Int.mul_zero] at ht
  omega
theorem taken_apart {g : Int} (g0 : 0 < g) {x y : ZZ} (hg : (Int.gcd x.1.1 y.1.1 : Int) = g) (h : ¬ zC x y) {m : Int} (h1 : m ∈ takenZ g x) (h2 : m ∈ takenZ g y) : False := by
  obtain ⟨k, hk, e1⟩ := mem_taken.mp h1
  obtain ⟨l, hl, e2⟩ := mem_taken.mp h2
  unfold zC Clash at h
  rw [hg] at h
  have d := Int.emod_eq_emod_iff_emod_sub_eq_zero.mp (e1.symm.trans e2)
  have d := dvd_of_mod d
  obtain ⟨t, ht⟩ := d
  by_cases w : l ≤ k
  · have := mod_le_of (a := y.2 - x.2) (c := (k : Int) - l) g0 (by omega) ⟨-t, by rw [Int.mul_neg]; omega⟩
    omega
  · have := mod_le_of (a := x.2 - y.2) (c := (l : Int) - k) g0 (by omega) ⟨t, by omega⟩
    omega
theorem taken_nodup {g : Int} (g0 : 0 < g) : ∀ {zs : List ZZ}, OneG g (zs.map (·.1)) → NoBar zC zs → (∀ z ∈ zs, z.1.2 ≤ g) → (takenL g zs).Nodup
  | [], _, _, _ => List.nodup_nil
  | z :: zs, hg, nb, hl => by
    have ih := taken_nodup g0 (zs := zs) (fun i j p q hij hi hj => hg (i + 1) (j + 1) p q (by omega) hi hj) (fun i j x y hij hi hj => nb (i + 1) (j + 1) x y (by omega) hi hj) fun x hx => hl x (List.mem_cons_of_mem _ hx)
    show (takenZ g z ++ takenL g zs).Nodup
    refine List.nodup_append.mpr ⟨taken_nodup1 g0 (hl z List.mem_cons_self), ih, fun a ha b hb e => ?_⟩
    subst e
    obtain ⟨y, hy, hm⟩ := List.mem_flatMap.mp hb
    obtain ⟨j, hj, e⟩ := List.getElem_of_mem hy
    have ey : zs[j]? = some y := by rw [List.getElem?_eq_getElem hj, e]
    exact taken_apart g0 (hg 0 (j + 1) z.1 y.1 (by omega) rfl (by rw [List.map_cons, List.getElem?_cons_succ, List.getElem?_map, ey]; rfl)) (nb 0 (j + 1) z y (by omega) rfl (by rw [List.getElem?_cons_succ]; exact ey)) ha hm
theorem taken_len {g : Int} : ∀ {zs : List ZZ}, (∀ z ∈ zs, 1 ≤ z.1.2) → ((takenL g zs).length : Int) = sumL (zs.map (·.1))
  | [], _ => rfl
  | z :: zs, h => by
    have ih := taken_len (g := g) (zs := zs) fun x hx => h x (List.mem_cons_of_mem _ hx)
    have h1 := h z List.mem_cons_self
    show (((takenZ g z ++ takenL g zs).length : Nat) : Int) = z.1.2 + sumL (zs.map (·.1))
    rw [List.length_append, Int.natCast_add, ih]
    unfold takenZ
    rw [List.length_map, List.length_range]
    omega
theorem ints_len {g : Int} (g0 : 0 < g) : ∀ {l : List Int}, l.Nodup → (∀ x ∈ l, 0 ≤ x ∧ x < g) → (l.length : Int) ≤ g := by
  intro l hn hb
  have h1 : (l.map Int.toNat).Nodup := by
    refine List.pairwise_map.mpr (List.Pairwise.imp_of_mem (fun {a b} ha hb' h e => h ?_) hn)
    have := hb a ha
    have := hb b hb'
    omega
  have h2 := L2.nat_nodup_len (l.map Int.toNat) (List.range g.toNat) h1 fun x hx => by
    obtain ⟨y, hy, rfl⟩ := List.mem_map.mp hx
    have := hb y hy
    exact List.mem_range.mpr (by omega)
  rw [List.length_map, List.length_range] at h2
  omega
/-- no clash: all together are no more than the factor -/
theorem sum_le {g : Int} (g0 : 0 < g) {zs : List ZZ} (hg : OneG g (zs.map (·.1))) (nb : NoBar zC zs) (hl : ∀ z ∈ zs, 1 ≤ z.1.2 ∧ z.1.2 ≤ g) : sumL (zs.map (·.1)) ≤ g := by
  have h1 := taken_nodup g0 hg nb fun z hz => (hl z hz).2
  have h2 := ints_len g0 h1 fun x hx => by
    obtain ⟨z, _, hm⟩ := List.mem_flatMap.mp hx
    obtain ⟨k, _, rfl⟩ := mem_taken.mp hm
    exact ⟨Int.emod_nonneg _ (by omega), Int.emod_lt_of_pos _ g0⟩
  rw [taken_len fun z hz => (hl z hz).1] at h2
  exact h2
/-- begun one behind the other -/
noncomputable def seqS : Int → List (Int × Int) → List Int
  | _, [] => []
  | t, p :: ps => t :: seqS (t + p.2) ps
theorem seqS_len : ∀ (ps : List (Int × Int)) (t : Int), (seqS t ps).length = ps.length
  | [], _ => rfl
  | p :: ps, t => by show (seqS (t + p.2) ps).length + 1 = _; rw [seqS_len ps]; rfl
theorem sumL_nn : ∀ {ps : List (Int × Int)}, (∀ p ∈ ps, 0 ≤ p.2) → 0 ≤ sumL ps
  | [], _ => by decide
  | p :: ps, h => by
    have ih := sumL_nn (ps := ps) fun q hq => h q (List.mem_cons_of_mem _ hq)
    have := h p List.mem_cons_self
    have e : sumL (p :: ps) = p.2 + sumL ps := by simp [sumL]
    omega
theorem seqS_rng : ∀ (ps : List (Int × Int)) (t : Int), (∀ p ∈ ps, 1 ≤ p.2) → ∀ (i : Nat) (p : Int × Int) (s : Int), ps[i]? = some p → (seqS t ps)[i]? = some s → t ≤ s ∧ s + p.2 ≤ t + sumL ps
  | [], t, h, i, p, s, hp, hs => by simp at hp
  | q :: ps, t, h, 0, p, s, hp, hs => by
    cases hp
    cases hs
    have nn : 0 ≤ sumL ps := sumL_nn fun y hy => by
      have := h y (List.mem_cons_of_mem _ hy)
      omega
    have e : sumL (q :: ps) = q.2 + sumL ps := by simp [sumL]
    rw [e]
    omega
  | q :: ps, t, h, i + 1, p, s, hp, hs => by
    have ih := seqS_rng ps (t + q.2) (fun x hx => h x (List.mem_cons_of_mem _ hx)) i p s hp hs
    have := h q List.mem_cons_self
    have e : sumL (q :: ps) = q.2 + sumL ps := by simp [sumL]
    rw [e]
    omega
theorem seqS_apart : ∀ (ps : List (Int × Int)) (t : Int), (∀ p ∈ ps, 1 ≤ p.2) → ∀ (i j : Nat) (p q : Int × Int) (s b : Int), i < j → ps[i]? = some p → ps[j]? = some q → (seqS t ps)[i]? = some s → (seqS t ps)[j]? = some b → s + p.2 ≤ b ∧ t ≤ s ∧ b + q.2 ≤ t + sumL ps
  | [], t, h, i, j, p, q, s, b, hij, hp, hq, hs, hb => by simp at hp
  | r :: ps, t, h, 0, 0, p, q, s, b, hij, hp, hq, hs, hb => by omega
  | r :: ps, t, h, 0, j + 1, p, q, s, b, hij, hp, hq, hs, hb => by
    cases hp
    cases hs
    have ih := seqS_rng ps (t + r.2) (fun x hx => h x (List.mem_cons_of_mem _ hx)) j q b hq hb
    have e : sumL (r :: ps) = r.2 + sumL ps := by simp [sumL]
    rw [e]
    omega
  | r :: ps, t, h, i + 1, 0, p, q, s, b, hij, hp, hq, hs, hb => by omega
  | r :: ps, t, h, i + 1, j + 1, p, q, s, b, hij, hp, hq, hs, hb => by
    have ih := seqS_apart ps (t + r.2) (fun x hx => h x (List.mem_cons_of_mem _ hx)) i j p q s b (by omega) hp hq hs hb
    have := h r List.mem_cons_self
    have e : sumL (r :: ps) = r.2 + sumL ps := by simp [sumL]
    rw [e]
    omega
/-- all together no more than the factor: one behind the other they do not clash -/
theorem seq_free {g : Int} (g0 : 0 < g) {ps : List (Int × Int)} (h2 : 2 ≤ ps.length) (hg : OneG g ps) (hl : ∀ p ∈ ps, 1 ≤ p.2) (hs : sumL ps ≤ g) : ∃ ss, Begun ps ss ∧ ss.length = ps.length ∧ NoBar zC (ps.zip ss) := by
  refine ⟨seqS 0 ps, ⟨by rw [seqS_len]; exact Nat.le_refl _, fun s h => ?_, fun i s f h1 h3 => ?_⟩, seqS_len ps 0, fun i j x y hij hi hj => ?_⟩
  · cases ps with
    | nil => simp at h2
    | cons p ps => cases h; rfl
  · rw [frs_one g0 h2 hg] at h3
    have hi : i < ps.length := by
      have := (List.getElem?_eq_some_iff.mp h3).1
      simpa using this
    rw [List.getElem?_replicate, if_pos hi] at h3
    cases h3
    have hp := List.getElem?_eq_getElem hi
    have := seqS_rng ps 0 hl i _ s hp h1
    have := hl _ (List.mem_of_getElem? hp)
    omega
  · obtain ⟨a1, a2⟩ := List.getElem?_zip_eq_some.mp hi
    obtain ⟨b1, b2⟩ := List.getElem?_zip_eq_some.mp hj
    obtain ⟨z1, z2, z3⟩ := seqS_apart ps 0 hl i j _ _ _ _ hij a1 b1 a2 b2
    have l1 := hl _ (List.mem_of_getElem? a1)
    have l2 := hl _ (List.mem_of_getElem? b1)
    unfold zC Clash
    rw [hg i j _ _ (by omega) a1 b1]
    have e1 : (y.2 - x.2) % g = y.2 - x.2 := Int.emod_eq_of_lt (by omega) (by omega)
    have e2 : (x.2 - y.2) % g = g - (y.2 - x.2) := by
      rw [show (x.2 - y.2 : Int) = (g - (y.2 - x.2)) + g * (-1) by rw [Int.mul_neg]; omega, Int.add_mul_emod_self_left]
      exact Int.emod_eq_of_lt (by omega) (by omega)
    rw [e1, e2]
    omega
/-! ### the drawn ones -/
noncomputable def primes : List Int := [1, 2, 3, 5, 7, 11]
theorem prime_gcd : (primes.all fun a => primes.all fun b => a == b || Int.gcd a b == 1) = true := by decide +kernel
theorem gcd_of {a b f : Int} (f0 : 0 < f) (ha : a ∈ primes) (hb : b ∈ primes) (h : a ≠ b) : (Int.gcd (f * a) (f * b) : Int) = f := by
  have h1 := List.all_eq_true.mp (List.all_eq_true.mp prime_gcd a ha) b hb
  rw [Bool.or_eq_true] at h1
  rcases h1 with h1 | h1
  · exact absurd (beq_iff_eq.mp h1) h
  · have e := beq_iff_eq.mp h1
    rw [Int.gcd_mul_left, e]
    omega
end K45
namespace K45
open PySem PySem.Spec AA
open L2 (FnScope defScope defBody)
open K10 (gcd_pos' gcd_turn lcm_eq dvd_of_mod)
open K41 (PieceOk At Both IsFirst Clash clash_iff both_min first_at at_cong First NoBar frS frA frs frS_le frA_le no_clash_room first_lap first_lt mod_le_of)

noncomputable abbrev pw : Program := PySem.Challenge.pw_againandagain_k45_whole_pieces_of_one_fa
noncomputable def top (i : Nat) : Stmt := pw.main.body.getD i (.Pass ⟨0, 0, 0, 0⟩)
noncomputable def cst : List (Str × D) := [("STARTS", (.str "starts")), ("CASES", (.str "cases")), ("MOST_PIECES", (.int 5)), ("MOST_EVERY", (.int 1440)), ("MOST_TRIED", (.int 20000))]
noncomputable def cls : List Str := ["JobError", "BadPieces", "BadStarts", "TooMany"]
noncomputable def sub : Nat → Nat → Bool := fun c d => [(0, 0), (1, 0), (1, 1), (2, 0), (2, 2), (3, 0), (3, 3)].contains (c, d)
noncomputable def Bis_integer : Ss := (.cons (.ret (.and_ (.isi (.var 0) .int) (.not_ (.isi (.var 0) .bool)))) .nil)
noncomputable def Nis_integer : List Str := ["value"]
noncomputable def Bis_between : Ss := (.cons (.ret (.and_ (.call 0 (.cons (.var 0) .nil)) (.chain .le .le (.var 1) (.var 0) (.var 2)))) .nil)
noncomputable def Nis_between : List Str := ["value", "least", "most"]
noncomputable def Bcommon : Ss := (.cons (.while_ (.cmp .ne (.var 1) (.int 0)) (.cons (.par 0 1 (.var 1) (.bin .mod (.var 0) (.var 1))) .nil)) (.cons (.ret (.bi .abs (.cons (.var 0) .nil))) .nil))
noncomputable def Ncommon : List Str := ["one", "other"]
noncomputable def Bis_piece : Ss := (.cons (.if_ (.or_ (.not_ (.isi (.var 0) .tuple)) (.or_ (.cmp .ne (.bi .len (.cons (.var 0) .nil)) (.int 2)) (.not_ (.call 1 (.cons (.idx (.var 0) (.int 0)) (.cons (.int 1) (.cons (.cst 3) .nil))))))) (.cons (.ret (.bl false)) .nil) .nil) (.cons (.ret (.call 1 (.cons (.idx (.var 0) (.int 1)) (.cons (.int 1) (.cons (.idx (.var 0) (.int 0)) .nil))))) .nil))
noncomputable def Nis_piece : List Str := ["value"]
noncomputable def Bcheck_pieces : Ss := (.cons (.if_ (.or_ (.not_ (.isi (.var 0) .tuple)) (.not_ (.chain .lt .le (.int 0) (.bi .len (.cons (.var 0) .nil)) (.cst 2)))) (.cons (.rs 1 (.var 0)) .nil) .nil) (.cons (.if_ (.not_ (.bi .all (.cons (.comp false [("one", 1)] (.nm 1) (.seq (.var 0)) .no (.call 3 (.cons (.var 1) .nil))) .nil))) (.cons (.rs 1 (.var 0)) .nil) .nil) .nil))
noncomputable def Ncheck_pieces : List Str := ["pieces", "one"]
noncomputable def Bare_starts : Ss := (.cons (.if_ (.or_ (.not_ (.isi (.var 1) .tuple)) (.cmp .ne (.bi .len (.cons (.var 1) .nil)) (.bi .len (.cons (.var 0) .nil)))) (.cons (.ret (.bl false)) .nil) .nil) (.cons (.ret (.bi .all (.cons (.comp false [("start", 2), ("every", 3), ("long", 4)] (.tp (.cons (.nm 2) (.cons (.tp (.cons (.nm 3) (.cons (.nm 4) .nil))) .nil))) (.zip (.var 1) (.var 0)) .no (.call 1 (.cons (.var 2) (.cons (.int 0) (.cons (.bin .sub (.var 3) (.int 1)) .nil))))) .nil))) .nil))
noncomputable def Nare_starts : List Str := ["pieces", "value", "start", "every", "long"]
noncomputable def Bleast_with : Ss := (.cons (.ret (.bin .fdiv (.bin .mul (.var 0) (.var 1)) (.call 2 (.cons (.var 0) (.cons (.var 1) .nil))))) .nil)
noncomputable def Nleast_with : List Str := ["one", "other"]
noncomputable def Bframes_of : Ss := (.cons (.asg (.nm 1) (.lst true .nil)) (.cons (.for_ (.tp (.cons (.nm 2) (.cons (.tp (.cons (.nm 3) (.cons (.nm 4) .nil))) .nil))) (.enum (.var 0)) (.cons (.asg (.nm 5) (.int 1)) (.cons (.for_ (.tp (.cons (.nm 6) (.cons (.nm 7) .nil))) (.enum (.var 0)) (.cons (.asg (.nm 5) (.ife (.cmp .eq (.var 6) (.var 2)) (.var 5) (.call 6 (.cons (.var 5) (.cons (.call 2 (.cons (.var 3) (.cons (.idx (.var 7) (.int 0)) .nil))) .nil))))) .nil)) (.cons (.ex (.app (.var 1) (.var 5))) .nil)))) (.cons (.ret (.var 1)) .nil)))
noncomputable def Nframes_of : List Str := ["pieces", "found", "at", "every", "long", "frame", "to", "other"]
noncomputable def Bframes : Ss := (.cons (.ex (.call 4 (.cons (.var 0) .nil))) (.cons (.ret (.bi .tuple (.cons (.call 7 (.cons (.var 0) .nil)) .nil))) .nil))
noncomputable def Nframes : List Str := ["pieces"]
noncomputable def Bdo_clash : Ss := (.cons (.asg (.nm 4) (.call 2 (.cons (.idx (.var 0) (.int 0)) (.cons (.idx (.var 2) (.int 0)) .nil)))) (.cons (.ret (.or_ (.cmp .lt (.bin .mod (.bin .sub (.var 3) (.var 1)) (.var 4)) (.idx (.var 0) (.int 1))) (.cmp .lt (.bin .mod (.bin .sub (.var 1) (.var 3)) (.var 4)) (.idx (.var 2) (.int 1))))) .nil))
noncomputable def Ndo_clash : List Str := ["one", "start", "other", "begin", "factor"]
noncomputable def Bis_at_work : Ss := (.cons (.ret (.cmp .lt (.bin .mod (.bin .sub (.var 2) (.var 1)) (.idx (.var 0) (.int 0))) (.idx (.var 0) (.int 1)))) .nil)
noncomputable def Nis_at_work : List Str := ["piece", "start", "minute"]
noncomputable def Bfirst_minute : Ss := (.cons (.if_ (.and_ (.call 10 (.cons (.var 0) (.cons (.var 1) (.cons (.int 0) .nil)))) (.call 10 (.cons (.var 2) (.cons (.var 3) (.cons (.int 0) .nil))))) (.cons (.ret (.int 0)) .nil) .nil) (.cons (.asg (.nm 4) (.lst true .nil)) (.cons (.for_ (.tp (.cons (.nm 5) (.cons (.nm 6) (.cons (.nm 7) (.cons (.nm 8) .nil))))) (.seq (.tup (.cons (.tup (.cons (.var 0) (.cons (.var 1) (.cons (.var 2) (.cons (.var 3) .nil))))) (.cons (.tup (.cons (.var 2) (.cons (.var 3) (.cons (.var 0) (.cons (.var 1) .nil))))) .nil)))) (.cons (.asgc 9 (.comp false [("lap", 10)] (.nm 10) (.rng1 (.bin .fdiv (.idx (.var 7) (.int 0)) (.call 2 (.cons (.idx (.var 5) (.int 0)) (.cons (.idx (.var 7) (.int 0)) .nil))))) .no (.bin .add (.var 6) (.bin .mul (.idx (.var 5) (.int 0)) (.var 10))))) (.cons (.ex (.ext (.var 4) (.slcm (.comp false [("minute", 11)] (.nm 11) (.seq (.var 9)) (.so (.call 10 (.cons (.var 7) (.cons (.var 8) (.cons (.var 11) .nil))))) (.var 11)) .no (.so (.int 1))))) .nil))) (.cons (.ret (.bi .min1 (.cons (.var 4) .nil))) .nil))))
noncomputable def Nfirst_minute : List Str := ["one", "start", "other", "begin", "found", "piece", "at", "its", "to", "some", "lap", "minute"]
noncomputable def Bclash : Ss := (.cons (.ex (.call 4 (.cons (.var 0) .nil))) (.cons (.if_ (.not_ (.call 5 (.cons (.var 0) (.cons (.var 1) .nil)))) (.cons (.rs 2 (.var 1)) .nil) .nil) (.cons (.for_ (.tp (.cons (.nm 2) (.cons (.nm 3) .nil))) (.enum (.var 0)) (.cons (.for_ (.nm 4) (.rng2 (.bin .add (.var 2) (.int 1)) (.bi .len (.cons (.var 0) .nil))) (.cons (.if_ (.call 9 (.cons (.var 3) (.cons (.idx (.var 1) (.var 2)) (.cons (.idx (.var 0) (.var 4)) (.cons (.idx (.var 1) (.var 4)) .nil))))) (.cons (.ret (.tup (.cons (.var 2) (.cons (.var 4) (.cons (.call 11 (.cons (.var 3) (.cons (.idx (.var 1) (.var 2)) (.cons (.idx (.var 0) (.var 4)) (.cons (.idx (.var 1) (.var 4)) .nil))))) .nil))))) .nil) .nil) .nil)) .nil)) (.cons (.ret .non) .nil))))
noncomputable def Nclash : List Str := ["pieces", "starts", "at", "one", "to"]
noncomputable def Bcheck_tried : Ss := (.cons (.ex (.call 4 (.cons (.var 0) .nil))) (.cons (.asg (.nm 1) (.int 1)) (.cons (.for_ (.nm 2) (.seq (.slcm (.call 7 (.cons (.var 0) .nil)) (.so (.int 1)) .no)) (.cons (.asg (.nm 1) (.bin .mul (.var 1) (.var 2))) .nil)) (.cons (.if_ (.cmp .gt (.var 1) (.cst 4)) (.cons (.rs 3 (.cst 4)) .nil) .nil) .nil))))
noncomputable def Ncheck_tried : List Str := ["pieces", "ways", "frame"]
noncomputable def Bclashing : Ss := (.cons (.asg (.nm 2) (.bin .sub (.bi .len (.cons (.var 1) .nil)) (.int 1))) (.cons (.for_ (.nm 3) (.rng1 (.var 2)) (.cons (.if_ (.call 9 (.cons (.idx (.var 0) (.var 3)) (.cons (.idx (.var 1) (.var 3)) (.cons (.idx (.var 0) (.var 2)) (.cons (.idx (.var 1) (.var 2)) .nil))))) (.cons (.ret (.var 3)) .nil) .nil) .nil)) (.cons (.ret .non) .nil)))
noncomputable def Nclashing : List Str := ["pieces", "begun", "last", "at"]
noncomputable def Bplacing : Ss := (.cons (.ex (.call 13 (.cons (.var 0) .nil))) (.cons (.par3 1 2 3 (.call 7 (.cons (.var 0) .nil)) (.lst true .nil) (.lst true (.cons (.tup (.cons (.int 0) .nil)) .nil))) (.cons (.while_ (.cmp .ne (.var 3) (.lst false .nil)) (.cons (.asg (.nm 4) (.pop (.var 3))) (.cons (.asg (.nm 5) (.call 14 (.cons (.var 0) (.cons (.var 4) .nil)))) (.cons (.if_ (.cmp .isnot (.var 5) .non) (.cons (.ex (.app (.var 2) (.tup (.cons (.var 4) (.cons (.var 5) .nil))))) .nil) (.cons (.if_ (.cmp .eq (.bi .len (.cons (.var 4) .nil)) (.bi .len (.cons (.var 0) .nil))) (.cons (.ret (.tup (.cons (.cst 0) (.cons (.var 4) .nil)))) .nil) (.cons (.ex (.ext (.var 3) (.revm (.comp false [("start", 6)] (.nm 6) (.rng1 (.idx (.var 1) (.bi .len (.cons (.var 4) .nil)))) .no (.tup (.star (.var 4) (.cons (.var 6) .nil))))))) .nil)) .nil)) .nil)))) (.cons (.ret (.tup (.cons (.cst 1) (.cons (.bi .tuple (.cons (.var 2) .nil)) .nil)))) .nil))))
noncomputable def Nplacing : List Str := ["pieces", "sizes", "cases", "waiting", "begun", "at", "start"]
noncomputable def Bis_case : Ss := (.cons (.if_ (.or_ (.not_ (.isi (.var 2) .tuple)) (.or_ (.cmp .ne (.bi .len (.cons (.var 2) .nil)) (.int 2)) (.not_ (.isi (.idx (.var 2) (.int 0)) .tuple)))) (.cons (.ret (.bl false)) .nil) .nil) (.cons (.asg (.tp (.cons (.nm 3) (.cons (.nm 4) .nil))) (.var 2)) (.cons (.if_ (.or_ (.not_ (.chain .lt .le (.int 1) (.bi .len (.cons (.var 3) .nil)) (.bi .len (.cons (.var 0) .nil)))) (.not_ (.call 1 (.cons (.var 4) (.cons (.int 0) (.cons (.bin .sub (.bi .len (.cons (.var 3) .nil)) (.int 2)) .nil)))))) (.cons (.ret (.bl false)) .nil) .nil) (.cons (.if_ (.or_ (.not_ (.bi .all (.cons (.comp false [("start", 5), ("size", 6)] (.tp (.cons (.nm 5) (.cons (.nm 6) .nil))) (.zip (.var 3) (.var 1)) .no (.call 1 (.cons (.var 5) (.cons (.int 0) (.cons (.bin .sub (.var 6) (.int 1)) .nil))))) .nil))) (.cmp .ne (.idx (.var 3) (.int 0)) (.int 0))) (.cons (.ret (.bl false)) .nil) .nil) (.cons (.asg (.nm 7) (.bin .sub (.bi .len (.cons (.var 3) .nil)) (.int 1))) (.cons (.ret (.call 9 (.cons (.idx (.var 0) (.var 4)) (.cons (.idx (.var 3) (.var 4)) (.cons (.idx (.var 0) (.var 7)) (.cons (.idx (.var 3) (.var 7)) .nil)))))) .nil))))))
noncomputable def Nis_case : List Str := ["pieces", "sizes", "value", "begun", "at", "start", "size", "last"]
noncomputable def Bare_cases : Ss := (.cons (.asg (.nm 2) (.call 7 (.cons (.var 0) .nil))) (.cons (.if_ (.or_ (.not_ (.isi (.var 1) .tuple)) (.not_ (.bi .all (.cons (.comp false [("case", 3)] (.nm 3) (.seq (.var 1)) .no (.call 16 (.cons (.var 0) (.cons (.var 2) (.cons (.var 3) .nil))))) .nil)))) (.cons (.ret (.bl false)) .nil) .nil) (.cons (.asg (.nm 4) (.dmk (.comp false [("begun", 5), ("at", 6)] (.tp (.cons (.nm 5) (.cons (.nm 6) .nil))) (.seq (.var 1)) .no (.tup (.cons (.var 5) (.cons (.bl true) .nil)))))) (.cons (.if_ (.cmp .ne (.bi .len (.cons (.var 4) .nil)) (.bi .len (.cons (.var 1) .nil))) (.cons (.ret (.bl false)) .nil) .nil) (.cons (.par 7 8 (.lst true (.cons (.tup (.cons (.int 0) .nil)) .nil)) (.int 0)) (.cons (.while_ (.cmp .ne (.var 7) (.lst false .nil)) (.cons (.asg (.nm 5) (.pop (.var 7))) (.cons (.if_ (.cmp .inn (.var 5) (.var 4)) (.cons (.asg (.nm 8) (.bin .add (.var 8) (.int 1))) .nil) (.cons (.if_ (.cmp .eq (.bi .len (.cons (.var 5) .nil)) (.bi .len (.cons (.var 0) .nil))) (.cons (.ret (.bl false)) .nil) (.cons (.ex (.ext (.var 7) (.comp true [("start", 9)] (.nm 9) (.rng1 (.idx (.var 2) (.bi .len (.cons (.var 5) .nil)))) .no (.tup (.star (.var 5) (.cons (.var 9) .nil)))))) .nil)) .nil)) .nil))) (.cons (.ret (.cmp .eq (.var 8) (.bi .len (.cons (.var 1) .nil)))) .nil)))))))
noncomputable def Nare_cases : List Str := ["pieces", "value", "sizes", "case", "rows", "begun", "at", "waiting", "seen", "start"]
noncomputable def Bshows_placing : Ss := (.cons (.ex (.call 13 (.cons (.var 0) .nil))) (.cons (.if_ (.or_ (.not_ (.isi (.var 1) .tuple)) (.or_ (.cmp .ne (.bi .len (.cons (.var 1) .nil)) (.int 2)) (.not_ (.isi (.idx (.var 1) (.int 0)) .str)))) (.cons (.ret (.bl false)) .nil) .nil) (.cons (.if_ (.cmp .eq (.idx (.var 1) (.int 0)) (.cst 0)) (.cons (.ret (.and_ (.call 5 (.cons (.var 0) (.cons (.idx (.var 1) (.int 1)) .nil))) (.cmp .is (.call 12 (.cons (.var 0) (.cons (.idx (.var 1) (.int 1)) .nil))) .non))) .nil) .nil) (.cons (.ret (.and_ (.cmp .eq (.idx (.var 1) (.int 0)) (.cst 1)) (.call 17 (.cons (.var 0) (.cons (.idx (.var 1) (.int 1)) .nil))))) .nil))))
noncomputable def Nshows_placing : List Str := ["pieces", "value"]
noncomputable def B_law_pot : Ss := (.cons (.asg (.nm 2) (.ife (.cmp .lt (.var 1) (.bi .len (.cons (.var 0) .nil))) (.idx (.var 0) (.var 1)) (.bin .add (.bin .add (.bin .mod (.bi .sum (.cons (.slc (.var 0) .no (.so (.int 1))) .nil)) (.int 1000003)) (.bin .mul (.int 26623) (.var 1))) (.int 8069)))) (.cons (.asg (.nm 3) (.bin .mul (.bin .mod (.bi .int (.cons (.bi .abs (.cons (.var 2) .nil)) .nil)) (.bin .pow (.bin .pow (.int 10) (.int 60)) (.int 5))) (.bi .int (.cons (.cmp .ge (.bi .abs (.cons (.var 2) .nil)) (.bin .pow (.int 10) (.int 18))) .nil)))) (.cons (.asg (.nm 4) (.bin .mod (.bi .int (.cons (.var 2) .nil)) (.int 2305843009213693951))) (.cons (.ret (.lst true (.cons (.var 3) (.cons (.bin .mod (.bi .int (.cons (.bin .add (.bin .add (.bin .mul (.var 4) (.int 110749)) (.bin .mul (.bin .mul (.int 22139) (.var 1)) (.var 1))) (.int 9787)) .nil)) (.int 2305843009213693921)) (.cons (.int 0) .nil))))) .nil))))
noncomputable def N_law_pot : List Str := ["script", "place", "cell", "own", "small"]
noncomputable def B_law_take : Ss := (.cons (.if_ (.cmp .gt (.idx (.var 0) (.int 0)) (.int 0)) (.cons (.asg (.nm 2) (.bin .mod (.bi .int (.cons (.idx (.var 0) (.int 0)) .nil)) (.var 1))) (.cons (.seti (.var 0) (.int 0) (.bin .fdiv (.idx (.var 0) (.int 0)) (.var 1))) (.cons (.ret (.var 2)) .nil))) .nil) (.cons (.seti (.var 0) (.int 2) (.bin .add (.idx (.var 0) (.int 2)) (.int 1))) (.cons (.asg (.nm 3) (.idx (.lst false (.cons (.int 2147483647) (.cons (.int 2147483629) (.cons (.int 2147483587) (.cons (.int 2147483579) (.cons (.int 2147483563) .nil)))))) (.bin .mod (.bi .int (.cons (.idx (.var 0) (.int 2)) .nil)) (.int 5)))) (.cons (.asg (.nm 4) (.bin .mod (.bi .int (.cons (.bin .pow (.bi .int (.cons (.bin .add (.bin .add (.idx (.var 0) (.int 1)) (.bin .mul (.bin .mul (.int 116981) (.idx (.var 0) (.int 2))) (.idx (.var 0) (.int 2)))) (.int 5141)) .nil)) (.int 3)) .nil)) (.var 3))) (.cons (.asg (.nm 4) (.bin .mod (.bi .int (.cons (.bin .mul (.var 4) (.bin .add (.bin .mod (.bi .int (.cons (.var 4) .nil)) (.int 26543)) (.bin .mul (.int 3031) (.idx (.var 0) (.int 2))))) .nil)) (.int 2305843009213693907))) (.cons (.ret (.bin .mod (.bi .int (.cons (.bin .fdiv (.var 4) (.int 7669)) .nil)) (.var 1))) .nil))))))
noncomputable def N_law_take : List Str := ["pot", "upto", "digit", "prime", "blend"]
noncomputable def B_law_cells : Ss := (.cons (.ret (.lsti false (.int 0) (.bi .max2 (.cons (.int 1) (.cons (.bi .min2 (.cons (.var 1) (.cons (.bi .len (.cons (.var 0) .nil)) .nil))) .nil))))) .nil)
noncomputable def N_law_cells : List Str := ["script", "most"]
noncomputable def B_law_some : Ss := (.cons (.par 3 4 (.lstm (.var 1)) (.lst true .nil)) (.cons (.for_ (.nm 5) (.rng1 (.var 2)) (.cons (.ex (.app (.var 4) (.popi (.var 3) (.call 20 (.cons (.var 0) (.cons (.bi .len (.cons (.var 3) .nil)) .nil)))))) .nil)) (.cons (.ret (.var 4)) .nil)))
noncomputable def N_law_some : List Str := ["pot", "pool", "many", "rest", "found", "lap"]
noncomputable def B_law_is_free : Ss := (.cons (.ret (.and_ (.cmp .eq (.idx (.var 1) (.int 0)) (.str "starts")) (.and_ (.cmp .is (.call 12 (.cons (.var 0) (.cons (.idx (.var 1) (.int 1)) .nil))) .non) (.cmp .is (.call 18 (.cons (.var 0) (.cons (.var 1) .nil))) (.bl true))))) .nil)
noncomputable def N_law_is_free : List Str := ["pieces", "told"]
noncomputable def B_law_right : Ss := (.cons (.asg (.tp (.cons (.nm 1) (.cons (.nm 2) .nil))) (.tup (.cons (.bin .add (.int 2) (.call 20 (.cons (.var 0) (.cons (.int 4) .nil)))) (.cons (.bin .add (.int 2) (.call 20 (.cons (.var 0) (.cons (.int 5) .nil)))) .nil)))) (.cons (.asg (.nm 3) (.call 22 (.cons (.var 0) (.cons (.lst false (.cons (.int 1) (.cons (.int 2) (.cons (.int 3) (.cons (.int 5) (.cons (.int 7) (.cons (.int 11) .nil))))))) (.cons (.var 1) .nil))))) (.cons (.asgc 4 (.comp false [("prime", 5)] (.nm 5) (.seq (.var 3)) .no (.bin .add (.int 1) (.call 20 (.cons (.var 0) (.cons (.ife (.cmp .gt (.var 2) (.int 3)) (.int 2) (.int 1)) .nil)))))) (.cons (.asg (.nm 6) (.bi .tuple (.cons (.comp false [("prime", 5), ("long", 7)] (.tp (.cons (.nm 5) (.cons (.nm 7) .nil))) (.zip (.var 3) (.var 4)) .no (.tup (.cons (.bi .int (.cons (.bin .mul (.var 2) (.var 5)) .nil)) (.cons (.bi .int (.cons (.var 7) .nil)) .nil)))) .nil))) (.cons (.if_ (.cmp .ne (.call 8 (.cons (.var 6) .nil)) (.bin .mul (.tup (.cons (.bi .int (.cons (.var 2) .nil)) .nil)) (.var 1))) (.cons (.ret (.bl false)) .nil) .nil) (.cons (.asg (.nm 8) (.call 15 (.cons (.var 6) .nil))) (.cons (.if_ (.or_ (.cmp .ne (.cmp .eq (.idx (.var 8) (.int 0)) (.str "starts")) (.cmp .le (.bi .sum (.cons (.var 4) .nil)) (.var 2))) (.cmp .isnot (.call 18 (.cons (.var 6) (.cons (.var 8) .nil))) (.bl true))) (.cons (.ret (.bl false)) .nil) .nil) (.cons (.if_ (.cmp .eq (.idx (.var 8) (.int 0)) (.str "cases")) (.cons (.ret (.cmp .gt (.bi .sum (.cons (.var 4) .nil)) (.var 2))) .nil) .nil) (.cons (.if_ (.not_ (.call 23 (.cons (.var 6) (.cons (.var 8) .nil)))) (.cons (.ret (.bl false)) .nil) .nil) (.cons (.asg (.nm 9) (.lst true .nil)) (.cons (.for_ (.tp (.cons (.nm 10) (.cons (.tp (.cons (.nm 11) (.cons (.nm 7) .nil))) .nil))) (.zip (.idx (.var 8) (.int 1)) (.var 6)) (.cons (.ex (.ext (.var 9) (.comp true [("step", 12)] (.nm 12) (.rng1 (.var 7)) .no (.bin .mod (.bin .add (.var 10) (.var 12)) (.var 2))))) .nil)) (.cons (.ret (.cmp .eq (.lenset (.var 9)) (.bi .len (.cons (.var 9) .nil)))) .nil))))))))))))
noncomputable def N_law_right : List Str := ["pot", "many", "factor", "primes", "longs", "prime", "pieces", "long", "told", "taken", "start", "every", "step"]
noncomputable def B_law_is_full_right : Ss := (.cons (.asg (.nm 1) (.bi .int (.cons (.bin .mul (.int 2) (.bin .add (.int 60) (.call 20 (.cons (.var 0) (.cons (.int 661) .nil))))) .nil))) (.cons (.asg (.nm 2) (.bi .int (.cons (.bin .add (.int 1) (.call 20 (.cons (.var 0) (.cons (.bin .sub (.bin .fdiv (.var 1) (.int 2)) (.int 1)) .nil)))) .nil))) (.cons (.asg (.nm 3) (.tup (.cons (.tup (.cons (.var 1) (.cons (.var 2) .nil))) (.cons (.tup (.cons (.var 1) (.cons (.bi .int (.cons (.bin .sub (.var 1) (.var 2)) .nil)) .nil))) .nil)))) (.cons (.asg (.nm 4) (.call 15 (.cons (.var 3) .nil))) (.cons (.if_ (.or_ (.not_ (.call 23 (.cons (.var 3) (.cons (.var 4) .nil)))) (.cmp .ne (.bin .mod (.bin .sub (.idx (.idx (.var 4) (.int 1)) (.int 1)) (.idx (.idx (.var 4) (.int 1)) (.int 0))) (.var 1)) (.var 2))) (.cons (.ret (.bl false)) .nil) .nil) (.cons (.if_ (.cmp .ne (.idx (.call 15 (.cons (.tup (.cons (.tup (.cons (.var 1) (.cons (.var 2) .nil))) (.cons (.tup (.cons (.var 1) (.cons (.bi .int (.cons (.bin .add (.bin .sub (.var 1) (.var 2)) (.int 1)) .nil)) .nil))) .nil))) .nil)) (.int 0)) (.str "cases")) (.cons (.ret (.bl false)) .nil) .nil) (.cons (.asg (.nm 5) (.bi .int (.cons (.bin .add (.int 1) (.call 20 (.cons (.var 0) (.cons (.int 3) .nil)))) .nil))) (.cons (.asg (.nm 6) (.tup (.cons (.tup (.cons (.bin .mul (.int 6) (.var 5)) (.cons (.var 5) .nil))) (.cons (.tup (.cons (.bin .mul (.int 10) (.var 5)) (.cons (.var 5) .nil))) (.cons (.tup (.cons (.bin .mul (.int 15) (.var 5)) (.cons (.var 5) .nil))) .nil))))) (.cons (.asg (.nm 4) (.call 15 (.cons (.var 6) .nil))) (.cons (.if_ (.or_ (.cmp .isnot (.call 18 (.cons (.var 6) (.cons (.var 4) .nil))) (.bl true)) (.cmp .ne (.idx (.call 15 (.cons (.tup (.cons (.tup (.cons (.int 4) (.cons (.int 2) .nil))) (.cons (.tup (.cons (.int 6) (.cons (.int 1) .nil))) .nil))) .nil)) (.int 0)) (.str "cases"))) (.cons (.ret (.bl false)) .nil) .nil) (.cons (.asg (.tp (.cons (.nm 7) (.cons (.nm 8) .nil))) (.tup (.cons .non (.cons (.tup (.cons (.tup (.cons (.int 1440) (.cons (.int 1) .nil))) (.cons (.tup (.cons (.int 1440) (.cons (.int 1) .nil))) (.cons (.tup (.cons (.int 1440) (.cons (.int 1) .nil))) .nil)))) .nil)))) (.cons (.try_ 0 9 (.cons (.ex (.call 15 (.cons (.var 8) .nil))) .nil) 7) (.cons (.ret (.and_ (.isi (.var 7) (.own 3)) (.cmp .eq (.bi .repr (.cons (.fld (.var 7) "value") .nil)) (.str "20000")))) .nil)))))))))))))
noncomputable def N_law_is_full_right : List Str := ["pot", "every", "one", "pieces", "told", "wide", "three", "caught", "great", "error"]
noncomputable def Blaw : Ss := (.cons (.for_ (.nm 1) (.seq (.call 21 (.cons (.var 0) (.cons (.int 2) .nil)))) (.cons (.asg (.nm 2) (.call 19 (.cons (.var 0) (.cons (.var 1) .nil)))) (.cons (.if_ (.or_ (.not_ (.bi .all (.cons (.comp false [("lap", 3)] (.nm 3) (.rng1 (.int 4)) .no (.call 24 (.cons (.var 2) .nil))) .nil))) (.not_ (.call 25 (.cons (.var 2) .nil)))) (.cons (.ret (.bl false)) .nil) .nil) .nil))) (.cons (.ret (.bl true)) .nil))
noncomputable def Nlaw : List Str := ["script", "place", "pot", "lap"]
noncomputable def lams : List (List Str) := []
noncomputable def ats : List (Nat × Str) := []
noncomputable def ins : List (Nat × Str) := []
noncomputable def tab (l : List Fn) : Tab := ⟨cst, l, cls, sub, PyData.shown, lams, ats, ins⟩
/-! ### K45: what each def is to keep -/
noncomputable def big : Int := 10 ^ 40
noncomputable def potL (own small cnt : Int) : MO := .lst [.int own, .int small, .int cnt]
/-- the pot stands at n, its count at most c -/
noncomputable def Pot (M : Mem) (n : Nat) (c : Int) : Prop := ∃ own small cnt, M[n]? = some (potL own small cnt) ∧ 0 ≤ cnt ∧ cnt ≤ c ∧ 0 ≤ small ∧ small < 2305843009213693951
/-- all that stood stands -/
structure Kept (M M' : Mem) : Prop where
  len : M.length ≤ M'.length
  at_ : ∀ k, k < M.length → M'[k]? = M[k]?
noncomputable def Pair (p : Int × Int) : D := .tup [.int p.1, .int p.2]
noncomputable def Pcs (ps : List (Int × Int)) : D := .tup (ps.map Pair)
noncomputable def Sts (ss : List Int) : D := .tup (ss.map D.int)
noncomputable def PsOk (ps : List (Int × Int)) : Prop := ps ≠ [] ∧ ps.length ≤ 5 ∧ ∀ p ∈ ps, PieceOk p
noncomputable def ZOk (zs : List ZZ) : Prop := zs ≠ [] ∧ zs.length ≤ 5 ∧ ∀ z ∈ zs, PieceOk z.1 ∧ 0 ≤ z.2 ∧ z.2 < z.1.1
noncomputable def Ijm (i j : Nat) (m : Int) : D := .tup [.int i, .int j, .int m]
/-- the first clash, its minute -/
noncomputable def FirstM (zs : List ZZ) (i j : Nat) (m : Int) : Prop := First zC zs i j ∧ ∃ x y, zs[i]? = some x ∧ zs[j]? = some y ∧ IsFirst x.1 x.2 y.1 y.2 m
/-- the product of the frames but the first -/
noncomputable def prodZ : List Int → Int
  | [] => 1
  | f :: fs => f * prodZ fs
noncomputable def ways (fs : List Int) : Int := prodZ fs.tail
/-- pieces that may be tried -/
noncomputable def TryOk (ps : List (Int × Int)) : Prop := PsOk ps ∧ ways (frs ps 0 ps) ≤ 20000
/-- a case: what is begun, the first that clashes with the last one -/
noncomputable def caseD (c : List Int × Nat) : D := .tup [Sts c.1, .int (c.2 : Nat)]
/-- none of all that could be begun is free -/
noncomputable def NoFree (ps : List (Int × Int)) : Prop := ∀ ss, Begun ps ss → ss.length = ps.length → ¬ NoBar zC (ps.zip ss)
/-- all cases, as they are found -/
noncomputable def casesL (ps : List (Int × Int)) : List (List Int × Nat) := leaves ps (ps.length - 1) [0]
/-- what placing tells -/
noncomputable def Told (ps : List (Int × Int)) (d : D) : Prop := (∃ ss, Begun ps ss ∧ ss.length = ps.length ∧ NoBar zC (ps.zip ss) ∧ d = .tup [.str "starts", Sts ss]) ∨ (NoFree ps ∧ d = .tup [.str "cases", .tup ((casesL ps).map caseD)])
/-- the pieces that are drawn: of one factor -/
noncomputable def Draw (g : Int) (ps : List (Int × Int)) : Prop := 2 ≤ ps.length ∧ ps.length ≤ 5 ∧ 2 ≤ g ∧ g ≤ 6 ∧ (∀ p ∈ ps, PieceOk p ∧ p.2 ≤ g) ∧ OneG g ps
noncomputable def spis_integer : DSp := fun ds M Q _ => ∃ d, ds = [d] ∧ match d with | .int _ => Q (.bl true) M | .bl _ => Q (.bl false) M | .non => Q (.bl false) M | .str _ => Q (.bl false) M | .tup _ => Q (.bl false) M | .lst _ => Q (.bl false) M | _ => False
noncomputable def spis_between : DSp := fun ds M Q _ => ∃ d a b, ds = [d, .int a, .int b] ∧ match d with | .int i => Q (.bl (decide (a ≤ i ∧ i ≤ b))) M | .bl _ => Q (.bl false) M | .non => Q (.bl false) M | .str _ => Q (.bl false) M | .tup _ => Q (.bl false) M | .lst _ => Q (.bl false) M | _ => False
noncomputable def spcommon : DSp := fun ds M Q _ => ∃ a b : Int, ds = [.int a, .int b] ∧ 0 < a ∧ 0 < b ∧ Q (.int (Int.gcd a b)) M
noncomputable def spis_piece : DSp := fun ds M Q _ => ∃ p, PieceOk p ∧ ds = [Pair p] ∧ Q (.bl true) M
noncomputable def spcheck_pieces : DSp := fun ds M Q _ => ∃ ps, PsOk ps ∧ ds = [Pcs ps] ∧ Q .non M
noncomputable def spare_starts : DSp := fun ds M Q _ => ∃ zs, ZOk zs ∧ ds = [Pcs (zs.map (·.1)), Sts (zs.map (·.2))] ∧ Q (.bl true) M
noncomputable def spleast_with : DSp := fun ds M Q _ => ∃ a b : Int, ds = [.int a, .int b] ∧ 1 ≤ a ∧ 1 ≤ b ∧ b ≤ 1440 ∧ Q (.int (Int.lcm a b)) M
noncomputable def spframes_of : DSp := fun ds M Q _ => ∃ ps, PsOk ps ∧ ds = [Pcs ps] ∧ Q (.ref M.length) (M ++ [.lst ((frs ps 0 ps).map D.int)])
noncomputable def spframes : DSp := fun ds M Q _ => ∃ ps, PsOk ps ∧ ds = [Pcs ps] ∧ Q (.tup ((frs ps 0 ps).map D.int)) (M ++ [.lst ((frs ps 0 ps).map D.int)])
noncomputable def spdo_clash : DSp := fun ds M Q _ => ∃ p q s b, PieceOk p ∧ PieceOk q ∧ ds = [Pair p, .int s, Pair q, .int b] ∧ (Clash p s q b → Q (.bl true) M) ∧ (¬ Clash p s q b → Q (.bl false) M)
noncomputable def spis_at_work : DSp := fun ds M Q _ => ∃ p s m, PieceOk p ∧ ds = [Pair p, .int s, .int m] ∧ Q (.bl (decide (At p s m))) M
noncomputable def spfirst_minute : DSp := fun ds M Q _ => ∃ p q s b m, PieceOk p ∧ PieceOk q ∧ 0 ≤ s ∧ s < p.1 ∧ 0 ≤ b ∧ b < q.1 ∧ ds = [Pair p, .int s, Pair q, .int b] ∧ IsFirst p s q b m ∧ ∀ M', Kept M M' → Q (.int m) M'
noncomputable def spclash : DSp := fun ds M Q _ => ∃ zs, ZOk zs ∧ ds = [Pcs (zs.map (·.1)), Sts (zs.map (·.2))] ∧ (∀ i j m M', FirstM zs i j m → Kept M M' → Q (Ijm i j m) M') ∧ (NoBar zC zs → Q .non M)
noncomputable def spcheck_tried : DSp := fun ds M Q X => ∃ ps, PsOk ps ∧ ds = [Pcs ps] ∧ (ways (frs ps 0 ps) ≤ 20000 → ∀ M', Kept M M' → Q .non M') ∧ (20000 < ways (frs ps 0 ps) → ∀ M', Kept M M' → X 3 (.int 20000) M')
noncomputable def optD : Option Nat → D
  | some i => .int i
  | none => .non
noncomputable def spclashing : DSp := fun ds M Q _ => ∃ ps ss, PsOk ps ∧ ss ≠ [] ∧ ss.length ≤ ps.length ∧ ds = [Pcs ps, Sts ss] ∧ Q (optD (clashAt ps ss)) M
noncomputable def spplacing : DSp := fun ds M Q X => ∃ ps, PsOk ps ∧ ds = [Pcs ps] ∧ (ways (frs ps 0 ps) ≤ 20000 → ∀ d M', Told ps d → Kept M M' → Q d M') ∧ (20000 < ways (frs ps 0 ps) → ∀ M', Kept M M' → X 3 (.int 20000) M')
noncomputable def spis_case : DSp := fun ds M Q _ => ∃ ps b i z, PsOk ps ∧ Begun ps b ∧ clashAt ps b = some i ∧ M[z]? = some (.lst ((frs ps 0 ps).map D.int)) ∧ ds = [Pcs ps, .ref z, caseD (b, i)] ∧ Q (.bl true) M
noncomputable def spare_cases : DSp := fun ds M Q _ => ∃ ps, TryOk ps ∧ NoFree ps ∧ ds = [Pcs ps, .tup ((casesL ps).map caseD)] ∧ ∀ M', Kept M M' → Q (.bl true) M'
noncomputable def spshows_placing : DSp := fun ds M Q _ => ∃ ps d, TryOk ps ∧ Told ps d ∧ ds = [Pcs ps, d] ∧ ∀ M', Kept M M' → Q (.bl true) M'
noncomputable def sp_law_pot : DSp := fun ds M Q _ => ∃ (ns : List Int) (k : Nat), ds = [.lst (ns.map D.int), .int k] ∧ k ≤ 1 ∧ ∀ own small : Int, 0 ≤ small → small < 2305843009213693951 → Q (.ref M.length) (M ++ [potL own small 0])
noncomputable def sp_law_take : DSp := fun ds M Q _ => ∃ n own small cnt upto, ds = [.ref n, .int upto] ∧ M[n]? = some (potL own small cnt) ∧ 0 ≤ cnt ∧ cnt < 1000000 ∧ 0 ≤ small ∧ small < 2305843009213693951 ∧ 0 < upto ∧ upto ≤ 1000000000 ∧
  ∀ d own' cnt', 0 ≤ d → d < upto → 0 ≤ cnt' → cnt' ≤ cnt + 1 → Q (.int d) (M.set n (potL own' small cnt'))
noncomputable def sp_law_cells : DSp := fun ds M Q _ => ∃ (ns : List Int), ns.length ≤ 63 ∧ ds = [.lst (ns.map D.int), .int 2] ∧ ∀ k : Nat, k ≤ 2 → Q (.lst (rngL 0 k)) M
noncomputable def sp_law_some : DSp := fun ds M Q _ => ∃ (n : Nat) (c : Int) (xs : List Int) (k : Nat), ds = [.ref n, .lst (xs.map D.int), .int k] ∧ Pot M n c ∧ c < 900000 ∧ k ≤ xs.length ∧ xs.length ≤ 1000 ∧ xs.Nodup ∧
  ∀ (ys : List Int) (M' : Mem) (f : Nat), ys.length = k → ys.Nodup → (∀ y ∈ ys, y ∈ xs) → f ≠ n → Pot M' n (c + k) → M'[f]? = some (.lst (ys.map D.int)) → Q (.ref f) M'
noncomputable def sp_law_is_free : DSp := fun ds M Q _ => ∃ ps ss, TryOk ps ∧ Begun ps ss ∧ ss.length = ps.length ∧ NoBar zC (ps.zip ss) ∧ ds = [Pcs ps, .tup [.str "starts", Sts ss]] ∧ ∀ M', Kept M M' → Q (.bl true) M'
noncomputable def sp_law_right : DSp := fun ds M Q _ => ∃ n c, ds = [.ref n] ∧ Pot M n c ∧ c < 800000 ∧ ∀ M', Pot M' n (c + 100) → Q (.bl true) M'
noncomputable def sp_law_is_full_right : DSp := fun ds M Q _ => ∃ n c, ds = [.ref n] ∧ Pot M n c ∧ c < 800000 ∧ ∀ M', Pot M' n (c + 100) → Q (.bl true) M'
noncomputable def splaw : DSp := fun ds M Q _ => ∃ ns : List Int, ns.length ≤ 63 ∧ ds = [.lst (ns.map D.int)] ∧ ∀ M', Q (.bl true) M'

noncomputable def Fis_integer : Fn := ⟨"is_integer", ["value"], false, spis_integer, none⟩
noncomputable def Fis_between : Fn := ⟨"is_between", ["value", "least", "most"], false, spis_between, none⟩
noncomputable def Fcommon : Fn := ⟨"common", ["one", "other"], false, spcommon, none⟩
noncomputable def Fis_piece : Fn := ⟨"is_piece", ["value"], false, spis_piece, none⟩
noncomputable def Fcheck_pieces : Fn := ⟨"check_pieces", ["pieces"], false, spcheck_pieces, none⟩
noncomputable def Fare_starts : Fn := ⟨"are_starts", ["pieces", "value"], false, spare_starts, none⟩
noncomputable def Fleast_with : Fn := ⟨"least_with", ["one", "other"], false, spleast_with, none⟩
noncomputable def Fframes_of : Fn := ⟨"frames_of", ["pieces"], false, spframes_of, none⟩
noncomputable def Fframes : Fn := ⟨"frames", ["pieces"], false, spframes, none⟩
noncomputable def Fdo_clash : Fn := ⟨"do_clash", ["one", "start", "other", "begin"], false, spdo_clash, none⟩
noncomputable def Fis_at_work : Fn := ⟨"is_at_work", ["piece", "start", "minute"], false, spis_at_work, none⟩
noncomputable def Ffirst_minute : Fn := ⟨"first_minute", ["one", "start", "other", "begin"], false, spfirst_minute, none⟩
noncomputable def Fclash : Fn := ⟨"clash", ["pieces", "starts"], false, spclash, none⟩
noncomputable def Fcheck_tried : Fn := ⟨"check_tried", ["pieces"], false, spcheck_tried, none⟩
noncomputable def Fclashing : Fn := ⟨"clashing", ["pieces", "begun"], false, spclashing, none⟩
noncomputable def Fplacing : Fn := ⟨"placing", ["pieces"], false, spplacing, none⟩
noncomputable def Fis_case : Fn := ⟨"is_case", ["pieces", "sizes", "value"], false, spis_case, none⟩
noncomputable def Fare_cases : Fn := ⟨"are_cases", ["pieces", "value"], false, spare_cases, none⟩
noncomputable def Fshows_placing : Fn := ⟨"shows_placing", ["pieces", "value"], false, spshows_placing, none⟩
noncomputable def F_law_pot : Fn := ⟨"_law_pot", ["script", "place"], false, sp_law_pot, none⟩
noncomputable def F_law_take : Fn := ⟨"_law_take", ["pot", "upto"], false, sp_law_take, none⟩
noncomputable def F_law_cells : Fn := ⟨"_law_cells", ["script", "most"], false, sp_law_cells, none⟩
noncomputable def F_law_some : Fn := ⟨"_law_some", ["pot", "pool", "many"], false, sp_law_some, none⟩
noncomputable def F_law_is_free : Fn := ⟨"_law_is_free", ["pieces", "told"], false, sp_law_is_free, none⟩
noncomputable def F_law_right : Fn := ⟨"_law_right", ["pot"], false, sp_law_right, none⟩
noncomputable def F_law_is_full_right : Fn := ⟨"_law_is_full_right", ["pot"], false, sp_law_is_full_right, none⟩
noncomputable def Flaw : Fn := ⟨"law", ["script"], false, splaw, none⟩
noncomputable abbrev T0 : List Fn := []
noncomputable abbrev T1 : List Fn := [Fis_integer]
noncomputable abbrev T2 : List Fn := [Fis_integer, Fis_between]
noncomputable abbrev T3 : List Fn := [Fis_integer, Fis_between, Fcommon]
noncomputable abbrev T4 : List Fn := [Fis_integer, Fis_between, Fcommon, Fis_piece]
noncomputable abbrev T5 : List Fn := [Fis_integer, Fis_between, Fcommon, Fis_piece, Fcheck_pieces]
noncomputable abbrev T6 : List Fn := [Fis_integer, Fis_between, Fcommon, Fis_piece, Fcheck_pieces, Fare_starts]
noncomputable abbrev T7 : List Fn := [Fis_integer, Fis_between, Fcommon, Fis_piece, Fcheck_pieces, Fare_starts, Fleast_with]
noncomputable abbrev T8 : List Fn := [Fis_integer, Fis_between, Fcommon, Fis_piece, Fcheck_pieces, Fare_starts, Fleast_with, Fframes_of]
noncomputable abbrev T9 : List Fn := [Fis_integer, Fis_between, Fcommon, Fis_piece, Fcheck_pieces, Fare_starts, Fleast_with, Fframes_of, Fframes]
noncomputable abbrev T10 : List Fn := [Fis_integer, Fis_between, Fcommon, Fis_piece, Fcheck_pieces, Fare_starts, Fleast_with, Fframes_of, Fframes, Fdo_clash]
noncomputable abbrev T11 : List Fn := [Fis_integer, Fis_between, Fcommon, Fis_piece, Fcheck_pieces, Fare_starts, Fleast_with, Fframes_of, Fframes, Fdo_clash, Fis_at_work]
noncomputable abbrev T12 : List Fn := [Fis_integer, Fis_between, Fcommon, Fis_piece, Fcheck_pieces, Fare_starts, Fleast_with, Fframes_of, Fframes, Fdo_clash, Fis_at_work, Ffirst_minute]
noncomputable abbrev T13 : List Fn := [Fis_integer, Fis_between, Fcommon, Fis_piece, Fcheck_pieces, Fare_starts, Fleast_with, Fframes_of, Fframes, Fdo_clash, Fis_at_work, Ffirst_minute, Fclash]
noncomputable abbrev T14 : List Fn := [Fis_integer, Fis_between, Fcommon, Fis_piece, Fcheck_pieces, Fare_starts, Fleast_with, Fframes_of, Fframes, Fdo_clash, Fis_at_work, Ffirst_minute, Fclash, Fcheck_tried]
noncomputable abbrev T15 : List Fn := [Fis_integer, Fis_between, Fcommon, Fis_piece, Fcheck_pieces, Fare_starts, Fleast_with, Fframes_of, Fframes, Fdo_clash, Fis_at_work, Ffirst_minute, Fclash, Fcheck_tried, Fclashing]
noncomputable abbrev T16 : List Fn := [Fis_integer, Fis_between, Fcommon, Fis_piece, Fcheck_pieces, Fare_starts, Fleast_with, Fframes_of, Fframes, Fdo_clash, Fis_at_work, Ffirst_minute, Fclash, Fcheck_tried, Fclashing, Fplacing]
noncomputable abbrev T17 : List Fn := [Fis_integer, Fis_between, Fcommon, Fis_piece, Fcheck_pieces, Fare_starts, Fleast_with, Fframes_of, Fframes, Fdo_clash, Fis_at_work, Ffirst_minute, Fclash, Fcheck_tried, Fclashing, Fplacing, Fis_case]
noncomputable abbrev T18 : List Fn := [Fis_integer, Fis_between, Fcommon, Fis_piece, Fcheck_pieces, Fare_starts, Fleast_with, Fframes_of, Fframes, Fdo_clash, Fis_at_work, Ffirst_minute, Fclash, Fcheck_tried, Fclashing, Fplacing, Fis_case, Fare_cases]
noncomputable abbrev T19 : List Fn := [Fis_integer, Fis_between, Fcommon, Fis_piece, Fcheck_pieces, Fare_starts, Fleast_with, Fframes_of, Fframes, Fdo_clash, Fis_at_work, Ffirst_minute, Fclash, Fcheck_tried, Fclashing, Fplacing, Fis_case, Fare_cases, Fshows_placing]
noncomputable abbrev T20 : List Fn := [Fis_integer, Fis_between, Fcommon, Fis_piece, Fcheck_pieces, Fare_starts, Fleast_with, Fframes_of, Fframes, Fdo_clash, Fis_at_work, Ffirst_minute, Fclash, Fcheck_tried, Fclashing, Fplacing, Fis_case, Fare_cases, Fshows_placing, F_law_pot]
noncomputable abbrev T21 : List Fn := [Fis_integer, Fis_between, Fcommon, Fis_piece, Fcheck_pieces, Fare_starts, Fleast_with, Fframes_of, Fframes, Fdo_clash, Fis_at_work, Ffirst_minute, Fclash, Fcheck_tried, Fclashing, Fplacing, Fis_case, Fare_cases, Fshows_placing, F_law_pot, F_law_take]
noncomputable abbrev T22 : List Fn := [Fis_integer, Fis_between, Fcommon, Fis_piece, Fcheck_pieces, Fare_starts, Fleast_with, Fframes_of, Fframes, Fdo_clash, Fis_at_work, Ffirst_minute, Fclash, Fcheck_tried, Fclashing, Fplacing, Fis_case, Fare_cases, Fshows_placing, F_law_pot, F_law_take, F_law_cells]
noncomputable abbrev T23 : List Fn := [Fis_integer, Fis_between, Fcommon, Fis_piece, Fcheck_pieces, Fare_starts, Fleast_with, Fframes_of, Fframes, Fdo_clash, Fis_at_work, Ffirst_minute, Fclash, Fcheck_tried, Fclashing, Fplacing, Fis_case, Fare_cases, Fshows_placing, F_law_pot, F_law_take, F_law_cells, F_law_some]
noncomputable abbrev T24 : List Fn := [Fis_integer, Fis_between, Fcommon, Fis_piece, Fcheck_pieces, Fare_starts, Fleast_with, Fframes_of, Fframes, Fdo_clash, Fis_at_work, Ffirst_minute, Fclash, Fcheck_tried, Fclashing, Fplacing, Fis_case, Fare_cases, Fshows_placing, F_law_pot, F_law_take, F_law_cells, F_law_some, F_law_is_free]
noncomputable abbrev T25 : List Fn := [Fis_integer, Fis_between, Fcommon, Fis_piece, Fcheck_pieces, Fare_starts, Fleast_with, Fframes_of, Fframes, Fdo_clash, Fis_at_work, Ffirst_minute, Fclash, Fcheck_tried, Fclashing, Fplacing, Fis_case, Fare_cases, Fshows_placing, F_law_pot, F_law_take, F_law_cells, F_law_some, F_law_is_free, F_law_right]
noncomputable abbrev T26 : List Fn := [Fis_integer, Fis_between, Fcommon, Fis_piece, Fcheck_pieces, Fare_starts, Fleast_with, Fframes_of, Fframes, Fdo_clash, Fis_at_work, Ffirst_minute, Fclash, Fcheck_tried, Fclashing, Fplacing, Fis_case, Fare_cases, Fshows_placing, F_law_pot, F_law_take, F_law_cells, F_law_some, F_law_is_free, F_law_right, F_law_is_full_right]
noncomputable abbrev T27 : List Fn := [Fis_integer, Fis_between, Fcommon, Fis_piece, Fcheck_pieces, Fare_starts, Fleast_with, Fframes_of, Fframes, Fdo_clash, Fis_at_work, Ffirst_minute, Fclash, Fcheck_tried, Fclashing, Fplacing, Fis_case, Fare_cases, Fshows_placing, F_law_pot, F_law_take, F_law_cells, F_law_some, F_law_is_free, F_law_right, F_law_is_full_right, Flaw]
theorem scis_integer : FnScope Nis_integer Fis_integer.par (defScope (top 6)) := ⟨rfl, rfl, rfl, by decide +kernel, by rfl, by decide +kernel, by decide +kernel⟩
theorem ckis_integer : chkSs (tab T0) Nis_integer (defScope (top 6)) (fun _ => true) Bis_integer (defBody (top 6)) = true := by decide +kernel
theorem scis_between : FnScope Nis_between Fis_between.par (defScope (top 7)) := ⟨rfl, rfl, rfl, by decide +kernel, by rfl, by decide +kernel, by decide +kernel⟩
theorem ckis_between : chkSs (tab T1) Nis_between (defScope (top 7)) (fun _ => true) Bis_between (defBody (top 7)) = true := by decide +kernel
theorem sccommon : FnScope Ncommon Fcommon.par (defScope (top 8)) := ⟨rfl, rfl, rfl, by decide +kernel, by rfl, by decide +kernel, by decide +kernel⟩
theorem ckcommon : chkSs (tab T2) Ncommon (defScope (top 8)) (fun _ => true) Bcommon (defBody (top 8)) = true := by decide +kernel
theorem scis_piece : FnScope Nis_piece Fis_piece.par (defScope (top 15)) := ⟨rfl, rfl, rfl, by decide +kernel, by rfl, by decide +kernel, by decide +kernel⟩
theorem ckis_piece : chkSs (tab T3) Nis_piece (defScope (top 15)) (fun _ => true) Bis_piece (defBody (top 15)) = true := by decide +kernel
theorem sccheck_pieces : FnScope Ncheck_pieces Fcheck_pieces.par (defScope (top 16)) := ⟨rfl, rfl, rfl, by decide +kernel, by rfl, by decide +kernel, by decide +kernel⟩
theorem ckcheck_pieces : chkSs (tab T4) Ncheck_pieces (defScope (top 16)) (fun _ => true) Bcheck_pieces (defBody (top 16)) = true := by decide +kernel
theorem scare_starts : FnScope Nare_starts Fare_starts.par (defScope (top 17)) := ⟨rfl, rfl, rfl, by decide +kernel, by rfl, by decide +kernel, by decide +kernel⟩
theorem ckare_starts : chkSs (tab T5) Nare_starts (defScope (top 17)) (fun _ => true) Bare_starts (defBody (top 17)) = true := by decide +kernel
theorem scleast_with : FnScope Nleast_with Fleast_with.par (defScope (top 18)) := ⟨rfl, rfl, rfl, by decide +kernel, by rfl, by decide +kernel, by decide +kernel⟩
theorem ckleast_with : chkSs (tab T6) Nleast_with (defScope (top 18)) (fun _ => true) Bleast_with (defBody (top 18)) = true := by decide +kernel
theorem scframes_of : FnScope Nframes_of Fframes_of.par (defScope (top 19)) := ⟨rfl, rfl, rfl, by decide +kernel, by rfl, by decide +kernel, by decide +kernel⟩
theorem ckframes_of : chkSs (tab T7) Nframes_of (defScope (top 19)) (fun _ => true) Bframes_of (defBody (top 19)) = true := by decide +kernel
theorem scframes : FnScope Nframes Fframes.par (defScope (top 20)) := ⟨rfl, rfl, rfl, by decide +kernel, by rfl, by decide +kernel, by decide +kernel⟩
theorem ckframes : chkSs (tab T8) Nframes (defScope (top 20)) (fun _ => true) Bframes (defBody (top 20)) = true := by decide +kernel
theorem scdo_clash : FnScope Ndo_clash Fdo_clash.par (defScope (top 21)) := ⟨rfl, rfl, rfl, by decide +kernel, by rfl, by decide +kernel, by decide +kernel⟩
theorem ckdo_clash : chkSs (tab T9) Ndo_clash (defScope (top 21)) (fun _ => true) Bdo_clash (defBody (top 21)) = true := by decide +kernel
theorem scis_at_work : FnScope Nis_at_work Fis_at_work.par (defScope (top 22)) := ⟨rfl, rfl, rfl, by decide +kernel, by rfl, by decide +kernel, by decide +kernel⟩
theorem ckis_at_work : chkSs (tab T10) Nis_at_work (defScope (top 22)) (fun _ => true) Bis_at_work (defBody (top 22)) = true := by decide +kernel
theorem scfirst_minute : FnScope Nfirst_minute Ffirst_minute.par (defScope (top 23)) := ⟨rfl, rfl, rfl, by decide +kernel, by rfl, by decide +kernel, by decide +kernel⟩
theorem ckfirst_minute : chkSs (tab T11) Nfirst_minute (defScope (top 23)) (fun _ => true) Bfirst_minute (defBody (top 23)) = true := by decide +kernel
theorem scclash : FnScope Nclash Fclash.par (defScope (top 24)) := ⟨rfl, rfl, rfl, by decide +kernel, by rfl, by decide +kernel, by decide +kernel⟩
theorem ckclash : chkSs (tab T12) Nclash (defScope (top 24)) (fun _ => true) Bclash (defBody (top 24)) = true := by decide +kernel
theorem sccheck_tried : FnScope Ncheck_tried Fcheck_tried.par (defScope (top 25)) := ⟨rfl, rfl, rfl, by decide +kernel, by rfl, by decide +kernel, by decide +kernel⟩
theorem ckcheck_tried : chkSs (tab T13) Ncheck_tried (defScope (top 25)) (fun _ => true) Bcheck_tried (defBody (top 25)) = true := by decide +kernel
theorem scclashing : FnScope Nclashing Fclashing.par (defScope (top 26)) := ⟨rfl, rfl, rfl, by decide +kernel, by rfl, by decide +kernel, by decide +kernel⟩
theorem ckclashing : chkSs (tab T14) Nclashing (defScope (top 26)) (fun _ => true) Bclashing (defBody (top 26)) = true := by decide +kernel
theorem scplacing : FnScope Nplacing Fplacing.par (defScope (top 27)) := ⟨rfl, rfl, rfl, by decide +kernel, by rfl, by decide +kernel, by decide +kernel⟩
theorem ckplacing : chkSs (tab T15) Nplacing (defScope (top 27)) (fun _ => true) Bplacing (defBody (top 27)) = true := by decide +kernel
theorem scis_case : FnScope Nis_case Fis_case.par (defScope (top 28)) := ⟨rfl, rfl, rfl, by decide +kernel, by rfl, by decide +kernel, by decide +kernel⟩
theorem ckis_case : chkSs (tab T16) Nis_case (defScope (top 28)) (fun _ => true) Bis_case (defBody (top 28)) = true := by decide +kernel
theorem scare_cases : FnScope Nare_cases Fare_cases.par (defScope (top 29)) := ⟨rfl, rfl, rfl, by decide +kernel, by rfl, by decide +kernel, by decide +kernel⟩
theorem ckare_cases : chkSs (tab T17) Nare_cases (defScope (top 29)) (fun _ => true) Bare_cases (defBody (top 29)) = true := by decide +kernel
theorem scshows_placing : FnScope Nshows_placing Fshows_placing.par (defScope (top 30)) := ⟨rfl, rfl, rfl, by decide +kernel, by rfl, by decide +kernel, by decide +kernel⟩
theorem ckshows_placing : chkSs (tab T18) Nshows_placing (defScope (top 30)) (fun _ => true) Bshows_placing (defBody (top 30)) = true := by decide +kernel
theorem sc_law_pot : FnScope N_law_pot F_law_pot.par (defScope (top 32)) := ⟨rfl, rfl, rfl, by decide +kernel, by rfl, by decide +kernel, by decide +kernel⟩
theorem ck_law_pot : chkSs (tab T19) N_law_pot (defScope (top 32)) (fun _ => true) B_law_pot (defBody (top 32)) = true := by decide +kernel
theorem sc_law_take : FnScope N_law_take F_law_take.par (defScope (top 33)) := ⟨rfl, rfl, rfl, by decide +kernel, by rfl, by decide +kernel, by decide +kernel⟩
theorem ck_law_take : chkSs (tab T20) N_law_take (defScope (top 33)) (fun _ => true) B_law_take (defBody (top 33)) = true := by decide +kernel
theorem sc_law_cells : FnScope N_law_cells F_law_cells.par (defScope (top 34)) := ⟨rfl, rfl, rfl, by decide +kernel, by rfl, by decide +kernel, by decide +kernel⟩
theorem ck_law_cells : chkSs (tab T21) N_law_cells (defScope (top 34)) (fun _ => true) B_law_cells (defBody (top 34)) = true := by decide +kernel
theorem sc_law_some : FnScope N_law_some F_law_some.par (defScope (top 35)) := ⟨rfl, rfl, rfl, by decide +kernel, by rfl, by decide +kernel, by decide +kernel⟩
theorem ck_law_some : chkSs (tab T22) N_law_some (defScope (top 35)) (fun _ => true) B_law_some (defBody (top 35)) = true := by decide +kernel
theorem sc_law_is_free : FnScope N_law_is_free F_law_is_free.par (defScope (top 36)) := ⟨rfl, rfl, rfl, by decide +kernel, by rfl, by decide +kernel, by decide +kernel⟩
theorem ck_law_is_free : chkSs (tab T23) N_law_is_free (defScope (top 36)) (fun _ => true) B_law_is_free (defBody (top 36)) = true := by decide +kernel
theorem sc_law_right : FnScope N_law_right F_law_right.par (defScope (top 37)) := ⟨rfl, rfl, rfl, by decide +kernel, by rfl, by decide +kernel, by decide +kernel⟩
theorem ck_law_right : chkSs (tab T24) N_law_right (defScope (top 37)) (fun _ => true) B_law_right (defBody (top 37)) = true := by decide +kernel
theorem sc_law_is_full_right : FnScope N_law_is_full_right F_law_is_full_right.par (defScope (top 38)) := ⟨rfl, rfl, rfl, by decide +kernel, by rfl, by decide +kernel, by decide +kernel⟩
theorem ck_law_is_full_right : chkSs (tab T25) N_law_is_full_right (defScope (top 38)) (fun _ => true) B_law_is_full_right (defBody (top 38)) = true := by decide +kernel
theorem sclaw : FnScope Nlaw Flaw.par (defScope (top 39)) := ⟨rfl, rfl, rfl, by decide +kernel, by rfl, by decide +kernel, by decide +kernel⟩
theorem cklaw : chkSs (tab T26) Nlaw (defScope (top 39)) (fun _ => true) Blaw (defBody (top 39)) = true := by decide +kernel
end K45
set_option pp.deepTerms false
set_option pp.maxSteps 300
namespace K45
open PySem PySem.Spec AA
open L2 (FnScope defScope defBody)
open K10 (gcd_pos' gcd_turn lcm_eq dvd_of_mod pow_small)
open K41 (PieceOk At Both IsFirst Clash clash_iff both_min first_at at_cong First NoBar frS frA frs frS_le frA_le no_clash_room first_lap first_lt mod_le_of)

open K10 (gcd_pos' gcd_turn lcm_eq dvd_of_mod Bars lcmL Fits lcmL_pos lcmL_le fit_step gcd_div_one dvd_lcmL fits_more pow_small put_math)
open K41 (PieceOk At Both IsFirst Clash clash_iff both_min first_at at_cong First NoBar frS frA frs frS_le frA_le no_clash_room room_free first_lap first_lt mod_le_of)
theorem okis_integer : ∀ ds M Q X, ds.length = Fis_integer.par.length → Fis_integer.sp ds M Q X → wpSs (tab T0) Bis_integer (dEnds Q X) (dstart Nis_integer ds) M := by
  intro ds M Q X hl h
  obtain ⟨d, rfl, h⟩ := h
  cases d <;> simp [Bis_integer, wpSs, wpS, wpE, slotD, dstart, Nis_integer, isiD, asBl, asTru, truD] at h ⊢ <;> exact h
theorem okis_between : ∀ ds M Q X, ds.length = Fis_between.par.length → Fis_between.sp ds M Q X → wpSs (tab T1) Bis_between (dEnds Q X) (dstart Nis_between ds) M := by
  intro ds M Q X hl h
  obtain ⟨d, a, b, rfl, h⟩ := h
  cases d with
  | int i =>
    have h : Q (.bl (decide (a ≤ i ∧ i ≤ b))) M := h
    refine ⟨rfl, .int i, rfl, ?_⟩
    by_cases h1 : a ≤ i
    · refine iteT (c := decide (a ≤ i) = true) (decide_eq_true h1) ?_
      rw [show decide (a ≤ i ∧ i ≤ b) = decide (i ≤ b) by simp [h1]] at h
      exact h
    · refine iteF (c := decide (a ≤ i) = true) (by rw [decide_eq_false h1]; decide) ?_
      rw [show decide (a ≤ i ∧ i ≤ b) = false by simp [h1]] at h
      exact h
  | _ => first | exact h.elim | exact ⟨rfl, _, rfl, h⟩
theorem common_loop {Γ : Tab} {E : DE} {M : Mem} : ∀ (n : Nat) (a b : Int), 0 < a → 0 ≤ b → b < n → E.nx [some (.int (Int.gcd a b)), some (.int 0)] M →
    whileN (wpT Γ (.cmp .ne (.var 1) (.int 0))) (wpSs Γ (.cons (.par 0 1 (.var 1) (.bin .mod (.var 0) (.var 1))) .nil)) E (n + 1) [some (.int a), some (.int b)] M
  | 0, a, b, ha, hb, hn, h => by omega
  | n + 1, a, b, ha, hb, hn, h => by
    unfold whileN
    simp only [↓wpT, ↓wpE, ↓slotD, List.getElem?_cons_succ, List.getElem?_cons_zero, cmp_ne_int]
    by_cases z : b = 0
    · subst z
      simpa [Int.natAbs_of_nonneg (Int.le_of_lt ha)] using h
    · have hb' : 0 < b := by omega
      have m0 := Int.emod_nonneg a (show b ≠ 0 by omega)
      have m1 := Int.emod_lt_of_pos a hb'
      simp only [z, ne_eq, not_false_eq_true, decide_true, if_true, ↓wpSs, ↓wpS, ↓wpEs, ↓wpE, ↓slotD, List.getElem?_cons_succ, List.getElem?_cons_zero, ↓binD, ↓twoD, List.set_cons_zero, List.set_cons_succ]
      refine ⟨hb', ?_⟩
      refine common_loop (Γ := Γ) n b (a % b) hb' m0 (by omega) ?_
      rw [gcd_turn ha hb']
      exact h
theorem okcommon : ∀ ds M Q X, ds.length = Fcommon.par.length → Fcommon.sp ds M Q X → wpSs (tab T2) Bcommon (dEnds Q X) (dstart Ncommon ds) M := by
  intro ds M Q X hl h
  obtain ⟨a, b, rfl, ha, hb, h⟩ := h
  simp only [Bcommon, ↓wpSs, ↓wpS]
  refine ⟨b.toNat + 2, common_loop _ a b ha (by omega) (by omega) ?_⟩
  simp only [↓wpE, ↓wpEs, ↓slotD, List.getElem?_cons_zero, ↓biD]
  have : ¬ ((Int.gcd a b : Int) < 0) := by omega
  show Q (.int (if ((Int.gcd a b : Nat) : Int) < 0 then -((Int.gcd a b : Nat) : Int) else ((Int.gcd a b : Nat) : Int))) M
  rw [if_neg this]
  exact h
theorem ok_law_take : ∀ ds M Q X, ds.length = F_law_take.par.length → F_law_take.sp ds M Q X → wpSs (tab T20) B_law_take (dEnds Q X) (dstart N_law_take ds) M := by
  intro ds M Q X hl h
  obtain ⟨n, own, small, cnt, upto, rfl, hM, c0, c1, s0, s1, u0, u1, h⟩ := h
  have hs : seqD M (.ref n) = some [.int own, .int small, .int cnt] := seqD_ref hM
  refine idxD_of hs rfl ?_
  by_cases z : 0 < own
  · refine iteT (c := decide (0 < own) = true) (by simpa using z) ?_
    refine idxD_of hs rfl ?_
    refine ⟨u0, ?_⟩
    refine idxD_of hs rfl ?_
    refine ⟨div_ok u0 (by omega), ?_⟩
    conv => whnf
    rw [hM]
    exact h _ _ cnt (Int.emod_nonneg _ (by omega)) (Int.emod_lt_of_pos _ u0) c0 (by omega)
  · refine iteF (c := decide (0 < own) = true) (by simpa using z) ?_
    refine idxD_of hs rfl ?_
    conv => whnf
    rw [hM]
    have hM2 : (M.set n (potL own small (cnt + 1)))[n]? = some (potL own small (cnt + 1)) := set_get hM
    have hs2 : seqD (M.set n (potL own small (cnt + 1))) (.ref n) = some [.int own, .int small, .int (cnt + 1)] := seqD_ref hM2
    refine ⟨(by decide : (5 : Nat) ≤ 16777216), ?_⟩
    refine idxD_of hs2 rfl ?_
    refine ⟨by decide, ?_⟩
    obtain ⟨p, hp, p0, p1⟩ : ∃ p : Int, L2.atI [D.int 2147483647, .int 2147483629, .int 2147483587, .int 2147483579, .int 2147483563] ((cnt + 1) % 5) = some (.int p) ∧ 0 < p ∧ p < 2147483648 := by
      have k0 := Int.emod_nonneg (cnt + 1) (show (5 : Int) ≠ 0 by decide)
      have k1 := Int.emod_lt_of_pos (cnt + 1) (show (0 : Int) < 5 by decide)
      generalize (cnt + 1) % 5 = r at *
      have : r = 0 ∨ r = 1 ∨ r = 2 ∨ r = 3 ∨ r = 4 := by omega
      rcases this with rfl | rfl | rfl | rfl | rfl <;> exact ⟨_, rfl, by decide, by decide⟩
    refine idxD_of rfl hp ?_
    refine idxD_of hs2 rfl ?_
    refine idxD_of hs2 rfl ?_
    refine ⟨mul_l (by decide) (by decide), ?_⟩
    refine idxD_of hs2 rfl ?_
    refine ⟨mul_r (by omega) (by omega), ?_⟩
    have a0 : (0 : Int) ≤ 116981 * (cnt + 1) * (cnt + 1) := Int.mul_nonneg (Int.mul_nonneg (by decide) (by omega)) (by omega)
    have a1 : 116981 * (cnt + 1) * (cnt + 1) ≤ 116981 * 1000000 * 1000000 := Int.mul_le_mul (Int.mul_le_mul_of_nonneg_left (by omega) (by decide)) (by omega) (by omega) (by decide)
    refine ⟨pow_ok ?_ (by decide) (by decide), p0, ?_⟩
    · have : (small + 116981 * (cnt + 1) * (cnt + 1) + 5141).natAbs < 2 ^ 70 := by
        have e : (2 : Nat) ^ 70 = 1180591620717411303424 := by decide
        rw [e]
        omega
      exact Nat.lt_of_lt_of_le this (Nat.pow_le_pow_right (by decide) (by decide))
    have b0 := Int.emod_nonneg ((small + 116981 * (cnt + 1) * (cnt + 1) + 5141) ^ (3 : Int).toNat) (show p ≠ 0 by omega)
    have b1 := Int.emod_lt_of_pos ((small + 116981 * (cnt + 1) * (cnt + 1) + 5141) ^ (3 : Int).toNat) p0
    refine ⟨by decide, ?_⟩
    refine idxD_of hs2 rfl ?_
    refine ⟨mul_l (by decide) (by decide), mul_l (by omega) (by omega), by decide, div_ok (by decide) (by decide), u0, ?_⟩
    exact h _ own (cnt + 1) (Int.emod_nonneg _ (by omega)) (Int.emod_lt_of_pos _ u0) (by omega) (by omega)
theorem ok_law_cells : ∀ ds M Q X, ds.length = F_law_cells.par.length → F_law_cells.sp ds M Q X → wpSs (tab T21) B_law_cells (dEnds Q X) (dstart N_law_cells ds) M := by
  intro ds M Q X hl h
  obtain ⟨ns, hn, rfl, h⟩ := h
  have e : (ns.map D.int).length = ns.length := List.length_map ..
  have key : ∀ k : Int, 1 ≤ k → k ≤ 2 → RgB 0 ∧ RgB k ∧ (k - 0).toNat ≤ 16777216 ∧ Q (.lst (rngL 0 (k - 0).toNat)) M := fun k k0 k1 => ⟨⟨by decide, by decide⟩, ⟨by omega, by omega⟩, by omega, h _ (by omega)⟩
  have goal : RgB 0 ∧ RgB (if (if ((ns.map D.int).length : Int) < 2 then ((ns.map D.int).length : Int) else 2) > 1 then (if ((ns.map D.int).length : Int) < 2 then ((ns.map D.int).length : Int) else 2) else 1) ∧ _ ∧ _ := key _ (by split <;> omega) (by split <;> split <;> omega)
  exact goal
noncomputable def restS : Ss → Ss | .cons _ r => r | r => r
theorem ok_law_pot : ∀ ds M Q X, ds.length = F_law_pot.par.length → F_law_pot.sp ds M Q X → wpSs (tab T19) B_law_pot (dEnds Q X) (dstart N_law_pot ds) M := by
  intro ds M Q X hl h
  obtain ⟨ns, k, rfl, hk, h⟩ := h
  have tail : ∀ c : Int, wpSs (tab T19) (restS B_law_pot) (dEnds Q X) [some (.lst (ns.map D.int)), some (.int k), some (.int c), none, none] M := by
    intro c
    have s0 := Int.emod_nonneg c (show (2305843009213693951 : Int) ≠ 0 by decide)
    have s1 := Int.emod_lt_of_pos c (show (0 : Int) < 2305843009213693951 by decide)
    have f0 := Int.emod_nonneg (c % 2305843009213693951 * 110749 + 22139 * k * k + 9787) (show (2305843009213693921 : Int) ≠ 0 by decide)
    have f1 := Int.emod_lt_of_pos (c % 2305843009213693951 * 110749 + 22139 * k * k + 9787) (show (0 : Int) < 2305843009213693921 by decide)
    refine ⟨pow_ok (by decide) (by decide) (by decide), pow_ok (by decide) (by decide) (by decide), by decide, pow_ok (by decide) (by decide) (by decide), ?_⟩
    refine ⟨mul_r (b2i_le _).1 (b2i_le _).2, by decide, mul_r (by decide) (by decide), mul_l (by decide) (by decide), mul_r (by omega) (by omega), by decide, (by decide : (3 : Nat) ≤ 16777216), ?_⟩
    exact h _ _ f0 (by omega)
  by_cases z : k < ns.length
  · refine iteT (c := decide ((k : Int) < ((ns.map D.int).length : Int)) = true) (by simpa using z) ?_
    refine idxD_of (M := M) (x := .lst (ns.map D.int)) rfl (atI_ints z) ?_
    exact tail _
  · refine iteF (c := decide ((k : Int) < ((ns.map D.int).length : Int)) = true) (by simpa using z) ?_
    obtain ⟨ms, e⟩ := cutL_ints ns none (some 1)
    conv => whnf
    rw [e, intsD_map]
    exact ⟨by decide, mul_l (by decide) (by decide), tail _⟩
/-- behind a draw: the pot's count grew by one at most, all else stands -/
structure Drawn (M M' : Mem) (n : Nat) (c : Int) : Prop where
  pot : Pot M' n (c + 1)
  oth : ∀ k, k ≠ n → M'[k]? = M[k]?
  len : M'.length = M.length
theorem take_call {M : Mem} {n : Nat} {c upto : Int} {Q : DK} {X : XD} (hp : Pot M n c) (hc : c < 1000000) (u0 : 0 < upto) (u1 : upto ≤ 1000000000) (h : ∀ d M', 0 ≤ d → d < upto → Drawn M M' n c → Q (.int d) M') : F_law_take.sp [.ref n, .int upto] M Q X := by
  obtain ⟨own, small, cnt, hM, c0, c1, s0, s1⟩ := hp
  exact ⟨n, own, small, cnt, upto, rfl, hM, c0, by omega, s0, s1, u0, u1, fun d own' cnt' d0 d1 k0 k1 => h d _ d0 d1 ⟨⟨own', small, cnt', set_get hM, k0, by omega, s0, s1⟩, fun k hk => List.getElem?_set_ne (Ne.symm hk), List.length_set ..⟩⟩
theorem Pot.le {M : Mem} {n : Nat} {c c' : Int} (h : Pot M n c) (k : c ≤ c') : Pot M n c' := by
  obtain ⟨o, s, t, h1, h2, h3, h4⟩ := h
  exact ⟨o, s, t, h1, h2, by omega, h4⟩
theorem ne_int {i j : Int} (h : i ≠ j) : (!PyData.eqv (.int i) (.int j)) = true := by simp [PyData.eqv, h]
theorem ne_int' {i j : Int} (h : i = j) : ¬ (!PyData.eqv (.int i) (.int j)) = true := by simp [PyData.eqv, h]
end K45
set_option pp.deepTerms false
set_option pp.maxSteps 300
namespace K45
open PySem PySem.Spec AA
open L2 (FnScope defScope defBody)
open K10 (gcd_pos' gcd_turn lcm_eq dvd_of_mod pow_small)
open K41 (PieceOk At Both IsFirst Clash clash_iff both_min first_at at_cong First NoBar frS frA frs frS_le frA_le no_clash_room first_lap first_lt mod_le_of)

open K10 (gcd_pos' gcd_turn lcm_eq dvd_of_mod Bars lcmL Fits lcmL_pos lcmL_le fit_step gcd_div_one dvd_lcmL fits_more pow_small put_math)
open K41 (PieceOk At Both IsFirst Clash clash_iff both_min first_at at_cong First NoBar frS frA frs frS_le frA_le no_clash_room room_free first_lap first_lt mod_le_of)
theorem okis_piece : ∀ ds M Q X, ds.length = Fis_piece.par.length → Fis_piece.sp ds M Q X → wpSs (tab T3) Bis_piece (dEnds Q X) (dstart Nis_piece ds) M := by
  intro ds M Q X hl h
  obtain ⟨p, ⟨p1, p2, p3, p4⟩, rfl, h⟩ := h
  refine ⟨shaped_int _, shaped_int _, rfl, _, _, _, rfl, ?_⟩
  refine iteF (c := (!decide (1 ≤ p.1 ∧ p.1 ≤ 1440)) = true) (by simp [p1, p2]) ?_
  refine ⟨rfl, _, _, _, rfl, ?_⟩
  show Q (.bl (decide (1 ≤ p.2 ∧ p.2 ≤ p.1))) M
  rw [decide_eq_true ⟨p3, p4⟩]
  exact h
noncomputable def cpE : E := .call 3 (.cons (.var 1) .nil)
theorem cp_comp {Q : List D → Mem → Prop} {M : Mem} {ps : List (Int × Int)} (ok : PsOk ps) (h : Q (List.replicate ps.length (.bl true)) M) : ∀ (rest done : List (Int × Int)) (acc : List D), ps = done ++ rest → acc = List.replicate done.length (.bl true) →
    compD (bindT (.nm 1)) (wpC (tab T4) .no) (wpE (tab T4) cpE) (stayD (Pcs ps) (ps.map Pair)) [some (Pcs ps), none] Q (rest.map Pair) acc M
  | [], done, acc, e, ea => by
    rw [List.append_nil] at e
    subst e ea
    exact ⟨rfl, h⟩
  | p :: rest, done, acc, e, ea => by
    have hl : ps.length ≤ 5 := ok.2.1
    have len : done.length ≤ 5 := by rw [e, List.length_append] at hl; omega
    refine ⟨rfl, rfl, p, ok.2.2 p (by rw [e]; exact List.mem_append_right _ List.mem_cons_self), rfl, by rw [ea, List.length_replicate]; omega, ?_⟩
    exact cp_comp ok h rest (done ++ [p]) _ (by rw [e, List.append_assoc]; rfl) (by rw [ea, List.length_append]; exact List.replicate_succ'.symm)
theorem okcheck_pieces : ∀ ds M Q X, ds.length = Fcheck_pieces.par.length → Fcheck_pieces.sp ds M Q X → wpSs (tab T4) Bcheck_pieces (dEnds Q X) (dstart Ncheck_pieces ds) M := by
  intro ds M Q X hl h
  obtain ⟨ps, ok, rfl, h⟩ := h
  obtain ⟨h1, h2, h3⟩ := id ok
  have l : (ps.map Pair).length = ps.length := List.length_map ..
  have lp : 0 < ps.length := List.length_pos_iff.mpr h1
  refine iteT (c := decide ((0 : Int) < ((ps.map Pair).length : Int)) = true) (decide_eq_true (by omega)) ?_
  refine iteF (c := (!decide (((ps.map Pair).length : Int) ≤ 5)) = true) (by rw [l]; simp; omega) ?_
  refine cp_comp ok ?_ ps [] [] rfl rfl
  conv => whnf
  rw [blsD_rep]
  refine iteF (c := (!(List.replicate ps.length true).all id) = true) (by rw [all_rep]; decide) ?_
  exact h
noncomputable def asE : E := .call 1 (.cons (.var 2) (.cons (.int 0) (.cons (.bin .sub (.var 3) (.int 1)) .nil)))
noncomputable def zItem (z : ZZ) : D := .tup [.int z.2, Pair z.1]
theorem zip_items : ∀ zs : List ZZ, zipL ((zs.map (·.2)).map D.int) ((zs.map (·.1)).map Pair) = zs.map zItem
  | [] => rfl
  | z :: zs => by
    have := zip_items zs
    unfold zipL at *
    simp only [List.map_cons, List.zip_cons_cons, this]
    rfl
theorem as_comp {Q : List D → Mem → Prop} {M : Mem} {st : Mem → Prop} (hst : st M) {a b : Option D} {zs : List ZZ} (ok : ZOk zs) (h : Q (List.replicate zs.length (.bl true)) M) : ∀ (rest done : List ZZ) (acc : List D), zs = done ++ rest → acc = List.replicate done.length (.bl true) →
    compD (bindT (.tp (.cons (.nm 2) (.cons (.tp (.cons (.nm 3) (.cons (.nm 4) .nil))) .nil)))) (wpC (tab T5) .no) (wpE (tab T5) asE) st [a, b, none, none, none] Q (rest.map zItem) acc M
  | [], done, acc, e, ea => by
    rw [List.append_nil] at e
    subst e ea
    exact ⟨hst, h⟩
  | z :: rest, done, acc, e, ea => by
    have hl : zs.length ≤ 5 := ok.2.1
    have len : done.length ≤ 5 := by rw [e, List.length_append] at hl; omega
    obtain ⟨hp, z0, z1⟩ := ok.2.2 z (by rw [e]; exact List.mem_append_right _ List.mem_cons_self)
    refine ⟨hst, rfl, _, _, _, rfl, by rw [ea, List.length_replicate]; omega, ?_⟩
    refine as_comp hst ok h rest (done ++ [z]) _ (by rw [e, List.append_assoc]; rfl) ?_
    rw [decide_eq_true (show 0 ≤ z.2 ∧ z.2 ≤ z.1.1 - 1 by omega), ea, List.length_append]
    exact List.replicate_succ'.symm
theorem okare_starts : ∀ ds M Q X, ds.length = Fare_starts.par.length → Fare_starts.sp ds M Q X → wpSs (tab T5) Bare_starts (dEnds Q X) (dstart Nare_starts ds) M := by
  intro ds M Q X hl h
  obtain ⟨zs, ok, rfl, h⟩ := h
  have l1 : ((zs.map (·.1)).map Pair).length = zs.length := by simp
  have l2 : ((zs.map (·.2)).map D.int).length = zs.length := by simp
  refine ⟨shaped_int _, shaped_int _, ?_⟩
  refine iteF (c := (!PyData.eqv (.int (((zs.map (·.2)).map D.int).length : Int)) (.int (((zs.map (·.1)).map Pair).length : Int))) = true) (ne_int' (by rw [l1, l2])) ?_
  refine ⟨fun _ => rfl, ?_⟩
  rw [zip_items]
  refine as_comp ⟨rfl, rfl⟩ ok ?_ zs [] [] rfl rfl
  conv => whnf
  rw [blsD_rep]
  show Q (.bl ((List.replicate zs.length true).all id)) M
  rw [all_rep]
  exact h
theorem okleast_with : ∀ ds M Q X, ds.length = Fleast_with.par.length → Fleast_with.sp ds M Q X → wpSs (tab T6) Bleast_with (dEnds Q X) (dstart Nleast_with ds) M := by
  intro ds M Q X hl h
  obtain ⟨a, b, rfl, a0, b0, b1, h⟩ := h
  have g0 := gcd_pos' (m := b) a0
  have g1 : (Int.gcd a b : Int) ≤ b := Int.le_of_dvd (by omega) (Int.gcd_dvd_right (a := a) (b := b))
  refine ⟨mul_r (by omega) (by omega), rfl, a, b, rfl, by omega, by omega, div_ok g0 (by omega), ?_⟩
  have e : a * b / (Int.gcd a b : Int) = (Int.lcm a b : Int) := by
    obtain ⟨m1, e2⟩ := Int.gcd_dvd_right (a := a) (b := b)
    rw [lcm_eq a0 b0 e2]
    generalize (Int.gcd a b : Int) = g at *
    rw [e2, show a * (g * m1) = g * (a * m1) by ac_rfl, Int.mul_ediv_cancel_left _ (by omega)]
  show Q (.int (a * b / (Int.gcd a b : Int))) M
  rw [e]
  exact h
theorem okdo_clash : ∀ ds M Q X, ds.length = Fdo_clash.par.length → Fdo_clash.sp ds M Q X → wpSs (tab T9) Bdo_clash (dEnds Q X) (dstart Ndo_clash ds) M := by
  intro ds M Q X hl h
  obtain ⟨p, q, s, b, hp, hq, rfl, h1, h2⟩ := h
  obtain ⟨p1, p2, p3, p4⟩ := hp
  obtain ⟨q1, q2, q3, q4⟩ := hq
  have g0 := gcd_pos' (m := q.1) p1
  refine ⟨rfl, p.1, q.1, rfl, by omega, by omega, ?_⟩
  refine ⟨g0, ?_⟩
  by_cases z : (b - s) % (Int.gcd p.1 q.1 : Int) < p.2
  · refine iteT (c := decide ((b - s) % (Int.gcd p.1 q.1 : Int) < p.2) = true) (decide_eq_true z) ?_
    exact h1 (.inl z)
  · refine iteF (c := decide ((b - s) % (Int.gcd p.1 q.1 : Int) < p.2) = true) (by simpa using z) ?_
    refine ⟨g0, ?_⟩
    show Q (.bl (decide ((s - b) % (Int.gcd p.1 q.1 : Int) < q.2))) M
    by_cases w : (s - b) % (Int.gcd p.1 q.1 : Int) < q.2
    · rw [decide_eq_true w]; exact h1 (.inr w)
    · rw [decide_eq_false w]; exact h2 (fun c => by rcases c with c | c; exact z c; exact w c)
theorem okis_at_work : ∀ ds M Q X, ds.length = Fis_at_work.par.length → Fis_at_work.sp ds M Q X → wpSs (tab T10) Bis_at_work (dEnds Q X) (dstart Nis_at_work ds) M := by
  intro ds M Q X hl h
  obtain ⟨p, s, m, hp, rfl, h⟩ := h
  exact ⟨show 0 < p.1 by have := hp.1; omega, h⟩
end K45
set_option pp.deepTerms false
set_option pp.maxSteps 300
namespace K45
open PySem PySem.Spec AA
open L2 (FnScope defScope defBody)
open K10 (gcd_pos' gcd_turn lcm_eq dvd_of_mod pow_small)
open K41 (PieceOk At Both IsFirst Clash clash_iff both_min first_at at_cong First NoBar frS frA frs frS_le frA_le no_clash_room first_lap first_lt mod_le_of)

open K10 (gcd_pos' gcd_turn lcm_eq dvd_of_mod Bars lcmL Fits lcmL_pos lcmL_le fit_step gcd_div_one dvd_lcmL fits_more pow_small put_math)
open K41 (PieceOk At Both IsFirst Clash clash_iff both_min first_at at_cong First NoBar frS frA frs frS_le frA_le no_clash_room room_free first_lap first_lt mod_le_of)
theorem last_get (M : Mem) (v : MO) : (M ++ [v])[M.length]? = some v := by simp
theorem set_last (M : Mem) (v w : MO) : (M ++ [v]).set M.length w = M ++ [w] := by simp
theorem Kept.refl (M : Mem) : Kept M M := ⟨Nat.le_refl _, fun _ _ => rfl⟩
theorem Kept.snoc {M M' : Mem} (h : Kept M M') (v : MO) : Kept M (M' ++ [v]) := ⟨by have := h.len; simp; omega, fun k hk => by rw [List.getElem?_append_left (Nat.lt_of_lt_of_le hk h.len)]; exact h.at_ k hk⟩
theorem Kept.set {M M' : Mem} (h : Kept M M') {n : Nat} (hn : M.length ≤ n) (v : MO) : Kept M (M'.set n v) := ⟨by rw [List.length_set]; exact h.len, fun k hk => by rw [List.getElem?_set_ne (by omega)]; exact h.at_ k hk⟩
theorem Kept.trans {M M' M2 : Mem} (h : Kept M M') (h2 : Kept M' M2) : Kept M M2 := ⟨Nat.le_trans h.len h2.len, fun k hk => (h2.at_ k (Nat.lt_of_lt_of_le hk h.len)).trans (h.at_ k hk)⟩
theorem Pot.kept {M M' : Mem} {n : Nat} {c : Int} (h : Pot M n c) (k : Kept M M') : Pot M' n c := by
  obtain ⟨o, s, t, h1, h2⟩ := h
  exact ⟨o, s, t, (k.at_ n (List.getElem?_eq_some_iff.mp h1).1).trans h1, h2⟩
/-- the items of enumerate from the i-th on -/
noncomputable def itemsAt (i : Nat) (rest : List (Int × Int)) : List D := ((rest.map Pair).zipIdx i).map fun p => .tup [.int (p.2 : Nat), p.1]
theorem itemsAt_cons (i : Nat) (p : Int × Int) (rest : List (Int × Int)) : itemsAt i (p :: rest) = .tup [.int (i : Nat), Pair p] :: itemsAt (i + 1) rest := rfl
noncomputable def frI : Ss := match Bframes_of with | .cons _ (.cons (.for_ _ _ (.cons _ (.cons (.for_ _ _ b) _))) _) => b | _ => .nil
noncomputable def frO : Ss := match Bframes_of with | .cons _ (.cons (.for_ _ _ b) _) => b | _ => .nil
theorem fr_in {E : DE} {N : Mem} {ps : List (Int × Int)} {i : Nat} {p : Int × Int} (hp : PieceOk p) {x1 : Option D} : ∀ (rest : List (Int × Int)) (j : Nat) (f : Int) (t u : Option D), (∀ q ∈ rest, PieceOk q) → 1 ≤ f → (∀ t u, E.nx [some (Pcs ps), x1, some (.int i), some (.int p.1), some (.int p.2), some (.int (frA i p.1 j rest f)), t, u] N) →
    forD (bindT (.tp (.cons (.nm 6) (.cons (.nm 7) .nil)))) (wpSs (tab T7) frI) (stayD (Pcs ps) (ps.map Pair)) E (itemsAt j rest) [some (Pcs ps), x1, some (.int i), some (.int p.1), some (.int p.2), some (.int f), t, u] N
  | [], j, f, t, u, hr, hf, h => ⟨rfl, h t u⟩
  | q :: rest, j, f, t, u, hr, hf, h => by
    rw [itemsAt_cons]
    obtain ⟨p1, p2, p3, p4⟩ := id hp
    obtain ⟨q1, q2, q3, q4⟩ := hr q List.mem_cons_self
    have g0 := gcd_pos' (m := q.1) p1
    have g1 : (Int.gcd p.1 q.1 : Int) ≤ p.1 := Int.le_of_dvd (by omega) (Int.gcd_dvd_left (a := p.1) (b := q.1))
    have fs := frS_le (i := i) (j := j) (q := q) p1 p2 hf
    have next := fr_in (E := E) (N := N) (ps := ps) (i := i) (p := p) hp (x1 := x1) rest (j + 1) (frS i p.1 f j q) (some (.int j)) (some (Pair q)) (fun q hq => hr q (List.mem_cons_of_mem _ hq)) fs.1 (fun t u => h t u)
    refine ⟨rfl, shaped_int _, shaped_int _, ?_⟩
    by_cases z : j = i
    · refine iteT (c := PyData.eqv (.int (j : Int)) (.int (i : Int)) = true) (by rw [eqv_int]; simp [z]) ?_
      unfold frS at next
      rw [if_pos z] at next
      exact next
    · refine iteF (c := PyData.eqv (.int (j : Int)) (.int (i : Int)) = true) (by rw [eqv_int]; simp; omega) ?_
      unfold frS at next
      rw [if_neg z] at next
      exact ⟨rfl, p.1, q.1, rfl, by omega, by omega, rfl, f, _, rfl, hf, by omega, by omega, next⟩
theorem frs_len : ∀ (rest ps : List (Int × Int)) (i : Nat), (frs ps i rest).length = rest.length
  | [], ps, i => rfl
  | p :: rest, ps, i => by show (frs ps (i + 1) rest).length + 1 = rest.length + 1; rw [frs_len rest]
theorem fr_out {E : DE} {M : Mem} {ps : List (Int × Int)} (ok : PsOk ps) (hE : ∀ a b c d e f, E.nx [some (Pcs ps), some (.ref M.length), a, b, c, d, e, f] (M ++ [.lst ((frs ps 0 ps).map D.int)])) :
    ∀ (rest done : List (Int × Int)) (acc : List Int) (a b c d e f : Option D), ps = done ++ rest → acc.length = done.length → acc ++ frs ps done.length rest = frs ps 0 ps →
    forD (bindT (.tp (.cons (.nm 2) (.cons (.tp (.cons (.nm 3) (.cons (.nm 4) .nil))) .nil)))) (wpSs (tab T7) frO) (stayD (Pcs ps) (ps.map Pair)) E (itemsAt done.length rest) [some (Pcs ps), some (.ref M.length), a, b, c, d, e, f] (M ++ [.lst (acc.map D.int)])
  | [], done, acc, a, b, c, d, e, f, ep, el, ea => by
    have : acc = frs ps 0 ps := by rw [← ea]; simp [frs]
    rw [this]
    exact ⟨rfl, hE a b c d e f⟩
  | p :: rest, done, acc, a, b, c, d, e, f, ep, el, ea => by
    rw [itemsAt_cons]
    have hl : ps.length ≤ 5 := ok.2.1
    have len : done.length ≤ 5 := by rw [ep, List.length_append] at hl; omega
    have hp := ok.2.2 p (by rw [ep]; exact List.mem_append_right _ List.mem_cons_self)
    have next := fr_out (E := E) (M := M) ok hE rest (done ++ [p]) (acc ++ [frA done.length p.1 0 ps 1])
    rw [show (done ++ [p]).length = done.length + 1 by simp] at next
    refine ⟨rfl, ?_⟩
    refine fr_in hp ps 0 1 e f (fun q hq => ok.2.2 q hq) (by decide) (fun t u => ?_)
    conv => whnf
    rw [last_get]
    conv => whnf
    rw [last_get]
    refine ⟨by rw [List.length_map]; omega, ?_⟩
    rw [set_last]
    have n2 := next (some (.int done.length)) (some (.int p.1)) (some (.int p.2)) (some (.int (frA done.length p.1 0 ps 1))) t u (by rw [ep, List.append_assoc]; rfl) (by simp [el]) (by rw [← ea, List.append_assoc]; rfl)
    rw [List.map_append] at n2
    exact n2
theorem okframes_of : ∀ ds M Q X, ds.length = Fframes_of.par.length → Fframes_of.sp ds M Q X → wpSs (tab T7) Bframes_of (dEnds Q X) (dstart Nframes_of ds) M := by
  intro ds M Q X hl h
  obtain ⟨ps, ok, rfl, h⟩ := h
  refine ⟨by decide, ?_⟩
  exact fr_out ok (fun a b c d e f => h) ps [] [] none none none none none none rfl rfl rfl
theorem okframes : ∀ ds M Q X, ds.length = Fframes.par.length → Fframes.sp ds M Q X → wpSs (tab T8) Bframes (dEnds Q X) (dstart Nframes ds) M := by
  intro ds M Q X hl h
  obtain ⟨ps, ok, rfl, h⟩ := h
  refine ⟨rfl, ps, ok, rfl, rfl, ps, ok, rfl, ?_⟩
  conv => whnf
  rw [last_get]
  exact h
end K45
set_option pp.deepTerms false
set_option pp.maxSteps 300
namespace K45
open PySem PySem.Spec AA
open L2 (FnScope defScope defBody)
open K10 (gcd_pos' gcd_turn lcm_eq dvd_of_mod pow_small)
open K41 (PieceOk At Both IsFirst Clash clash_iff both_min first_at at_cong First NoBar frS frA frs frS_le frA_le no_clash_room first_lap first_lt mod_le_of)

open K10 (gcd_pos' gcd_turn lcm_eq dvd_of_mod Bars lcmL Fits lcmL_pos lcmL_le fit_step gcd_div_one dvd_lcmL fits_more pow_small put_math)
open K41 (PieceOk At Both IsFirst Clash clash_iff both_min first_at at_cong First NoBar frS frA frs frS_le frA_le no_clash_room room_free first_lap first_lt mod_le_of)
/-! ### the first minute -/
/-- p's first beginnings, n of them -/
noncomputable def SL (p : Int × Int) (s : Int) (n : Nat) : List Int := (List.range n).map fun k : Nat => s + p.1 * (k : Int)
noncomputable def FL (p : Int × Int) (s : Int) (n : Nat) (q : Int × Int) (b : Int) : List Int := (SL p s n).filter fun m => decide (At q b m)
noncomputable def lapsN (p q : Int × Int) : Nat := (q.1 / (Int.gcd p.1 q.1 : Int)).toNat
theorem SL_succ (p : Int × Int) (s : Int) (n : Nat) : SL p s (n + 1) = SL p s n ++ [s + p.1 * (n : Int)] := by unfold SL; rw [List.range_succ, List.map_append]; rfl
theorem FL_mem {p q : Int × Int} {s b m : Int} {n : Nat} : m ∈ FL p s n q b ↔ (∃ k : Nat, k < n ∧ m = s + p.1 * (k : Int)) ∧ At q b m := by
  unfold FL SL
  rw [List.mem_filter]
  simp only [List.mem_map, List.mem_range, decide_eq_true_eq]
  constructor
  · rintro ⟨⟨k, h1, h2⟩, h3⟩; exact ⟨⟨k, h1, h2.symm⟩, h3⟩
  · rintro ⟨⟨k, h1, h2⟩, h3⟩; exact ⟨⟨k, h1, h2.symm⟩, h3⟩
theorem FL_sorted {p q : Int × Int} (hp : PieceOk p) {s b : Int} {n : Nat} : (FL p s n q b).Pairwise (· ≤ ·) := by
  unfold FL SL
  refine List.Pairwise.filter _ (List.Pairwise.map _ (fun a b (h : a < b) => ?_) List.pairwise_lt_range)
  have := Int.mul_le_mul_of_nonneg_left (show (a : Int) ≤ (b : Int) by omega) (show 0 ≤ p.1 by have := hp.1; omega)
  omega
theorem FL_both {p q : Int × Int} (hp : PieceOk p) {s b m : Int} (s0 : 0 ≤ s) {n : Nat} (h : m ∈ FL p s n q b) : 0 ≤ m ∧ At p s m ∧ At q b m := by
  obtain ⟨⟨k, h1, rfl⟩, h2⟩ := FL_mem.mp h
  obtain ⟨p1, p2, p3, p4⟩ := hp
  have := Int.mul_nonneg (show 0 ≤ p.1 by omega) (show (0 : Int) ≤ (k : Int) by omega)
  refine ⟨by omega, ?_, h2⟩
  unfold At
  rw [show s + p.1 * (k : Int) - s = p.1 * k by omega, Int.mul_emod_right]
  omega
theorem take_head {l : List Int} (hs : l.Pairwise (· ≤ ·)) {m : Int} (hm : m ∈ l) (hl : ∀ y ∈ l, m ≤ y) : m ∈ l.take 1 := by
  cases l with
  | nil => cases hm
  | cons a t =>
    have h1 := hl a List.mem_cons_self
    have : a ≤ m := by
      rcases List.mem_cons.mp hm with e | e
      · omega
      · exact List.rel_of_pairwise_cons hs e
    have e : m = a := by omega
    subst e
    exact List.mem_cons_self
theorem fm_min {p q : Int × Int} (hp : PieceOk p) (hq : PieceOk q) {s b m : Int} (s0 : 0 ≤ s) (s1 : s < p.1) (b0 : 0 ≤ b) (b1 : b < q.1) (h : IsFirst p s q b m) (h0 : 0 < m) :
    m ∈ (FL p s (lapsN p q) q b).take 1 ++ (FL q b (lapsN q p) p s).take 1 ∧ ∀ y ∈ (FL p s (lapsN p q) q b).take 1 ++ (FL q b (lapsN q p) p s).take 1, m ≤ y := by
  have le1 : ∀ y ∈ FL p s (lapsN p q) q b, m ≤ y := fun y hy => by
    obtain ⟨y0, y1, y2⟩ := FL_both hp s0 hy
    rcases Int.lt_or_le y m with z | z
    · exact absurd ⟨y1, y2⟩ (h.2.2 y y0 z)
    · exact z
  have le2 : ∀ y ∈ FL q b (lapsN q p) p s, m ≤ y := fun y hy => by
    obtain ⟨y0, y1, y2⟩ := FL_both hq b0 hy
    rcases Int.lt_or_le y m with z | z
    · exact absurd ⟨y2, y1⟩ (h.2.2 y y0 z)
    · exact z
  have sw : IsFirst q b p s m := ⟨h.1, ⟨h.2.1.2, h.2.1.1⟩, fun m' h1 h2 h3 => h.2.2 m' h1 h2 ⟨h3.2, h3.1⟩⟩
  refine ⟨?_, fun y hy => ?_⟩
  · rcases first_at hp hq h h0 with z | z
    · obtain ⟨k, k1, k2⟩ := first_lap hp hq s0 s1 h z
      have : m ∈ FL p s (lapsN p q) q b := FL_mem.mpr ⟨⟨k, by unfold lapsN; omega, k2⟩, h.2.1.2⟩
      exact List.mem_append_left _ (take_head (FL_sorted hp) this le1)
    · obtain ⟨k, k1, k2⟩ := first_lap hq hp b0 b1 sw z
      have : m ∈ FL q b (lapsN q p) p s := FL_mem.mpr ⟨⟨k, by unfold lapsN; omega, k2⟩, h.2.1.1⟩
      exact List.mem_append_right _ (take_head (FL_sorted hq) this le2)
  · rcases List.mem_append.mp hy with hy | hy
    · exact le1 y (List.mem_of_mem_take hy)
    · exact le2 y (List.mem_of_mem_take hy)
/-! the walk -/
noncomputable def fmB : Ss := match Bfirst_minute with | .cons _ (.cons _ (.cons (.for_ _ _ b) _)) => b | _ => .nil
noncomputable def slE : E := .bin .add (.var 6) (.bin .mul (.idx (.var 5) (.int 0)) (.var 10))
theorem sl_comp {Q : List D → Mem → Prop} {N : Mem} {p : Int × Int} (hp : PieceOk p) {s : Int} {W : Nat} (hW : W ≤ 1440) {x0 x1 x2 x3 x4 x7 x8 x9 x11 : Option D} (h : Q ((SL p s W).map D.int) N) : ∀ (n k : Nat), k + n = W →
    compD (bindT (.nm 10)) (wpC (tab T11) .no) (wpE (tab T11) slE) (fun _ => True) [x0, x1, x2, x3, x4, some (Pair p), some (.int s), x7, x8, x9, none, x11] Q (rngL k n) ((SL p s k).map D.int) N
  | 0, k, e => by
    have : k = W := by omega
    subst this
    exact ⟨trivial, h⟩
  | n + 1, k, e => by
    rw [rngL_succ]
    obtain ⟨p1, p2, p3, p4⟩ := id hp
    have next := sl_comp (x0 := x0) (x1 := x1) (x2 := x2) (x3 := x3) (x4 := x4) (x7 := x7) (x8 := x8) (x9 := x9) (x11 := x11) hp hW h n (k + 1) (by omega)
    rw [show ((k + 1 : Nat) : Int) = (k : Int) + 1 by omega, SL_succ, List.map_append] at next
    have l : (SL p s k).length = k := by simp [SL]
    exact ⟨trivial, mul_l (by omega) (by omega), by rw [List.length_map, l]; omega, next⟩
noncomputable def flC : Op := .so (.call 10 (.cons (.var 7) (.cons (.var 8) (.cons (.var 11) .nil))))
theorem fl_comp {Q : List D → Mem → Prop} {N : Mem} {q : Int × Int} (hq : PieceOk q) {b : Int} {st : Mem → Prop} (hst : st N) {L : List Int} (hL : L.length ≤ 1440) {x0 x1 x2 x3 x4 x5 x6 x9 x10 : Option D} (h : Q ((L.filter fun m => decide (At q b m)).map D.int) N) : ∀ (rest done : List Int), L = done ++ rest →
    compD (bindT (.nm 11)) (wpC (tab T11) flC) (wpE (tab T11) (.var 11)) st [x0, x1, x2, x3, x4, x5, x6, some (Pair q), some (.int b), x9, x10, none] Q (rest.map D.int) ((done.filter fun m => decide (At q b m)).map D.int) N
  | [], done, e => by
    rw [List.append_nil] at e
    subst e
    exact ⟨hst, h⟩
  | m :: rest, done, e => by
    have next := fl_comp (x0 := x0) (x1 := x1) (x2 := x2) (x3 := x3) (x4 := x4) (x5 := x5) (x6 := x6) (x9 := x9) (x10 := x10) hq hst hL h rest (done ++ [m]) (by rw [e, List.append_assoc]; rfl)
    rw [List.filter_append, List.map_append] at next
    have len : (done.filter fun m => decide (At q b m)).length ≤ 1440 := by
      have := List.length_filter_le (fun m => decide (At q b m)) done
      rw [e, List.length_append] at hL
      omega
    refine ⟨hst, rfl, q, b, m, hq, rfl, ?_⟩
    by_cases z : At q b m
    · refine iteT (c := decide (At q b m) = true) (decide_eq_true z) ?_
      rw [show [m].filter (fun m => decide (At q b m)) = [m] by simp [z]] at next
      exact ⟨by rw [List.length_map]; omega, next⟩
    · refine iteF (c := decide (At q b m) = true) (by simpa using z) ?_
      rw [show [m].filter (fun m => decide (At q b m)) = [] by simp [z], List.map_nil, List.append_nil] at next
      exact next
theorem cut_one (l : List Int) : cutL (l.map D.int) none (some 1) = (l.take 1).map D.int := by
  unfold cutL
  rw [HT.sIx_none, show (1 : Int) = ((1 : Nat) : Int) from rfl, HT.sIx_nat, List.drop_zero, List.map_take]
  cases l <;> simp
end K45
set_option pp.deepTerms false
set_option pp.maxSteps 300
namespace K45
open PySem PySem.Spec AA
open L2 (FnScope defScope defBody)
open K10 (gcd_pos' gcd_turn lcm_eq dvd_of_mod pow_small)
open K41 (PieceOk At Both IsFirst Clash clash_iff both_min first_at at_cong First NoBar frS frA frs frS_le frA_le no_clash_room first_lap first_lt mod_le_of)

open K10 (gcd_pos' gcd_turn lcm_eq dvd_of_mod Bars lcmL Fits lcmL_pos lcmL_le fit_step gcd_div_one dvd_lcmL fits_more pow_small put_math)
open K41 (PieceOk At Both IsFirst Clash clash_iff both_min first_at at_cong First NoBar frS frA frs frS_le frA_le no_clash_room room_free first_lap first_lt mod_le_of)
theorem laps_le {p q : Int × Int} (hp : PieceOk p) (hq : PieceOk q) : 0 ≤ q.1 / (Int.gcd p.1 q.1 : Int) ∧ q.1 / (Int.gcd p.1 q.1 : Int) ≤ 1440 := by
  have g0 := gcd_pos' (m := q.1) hp.1
  have h1 := Int.ediv_nonneg (show 0 ≤ q.1 by have := hq.1; omega) (show 0 ≤ (Int.gcd p.1 q.1 : Int) by omega)
  have h2 := Int.ediv_le_self (a := q.1) (Int.gcd p.1 q.1 : Int) (by have := hq.1; omega)
  have := hq.2.1
  omega
theorem fm_turn {E : DE} {N : Mem} {f : Nat} {acc : List Int} {p q : Int × Int} {s b : Int} (hp : PieceOk p) (hq : PieceOk q) (hN : N[f]? = some (.lst (acc.map D.int))) (ha : acc.length ≤ 10) {x0 x1 x2 x3 x9 : Option D}
    (h : ∀ v c, E.nx [x0, x1, x2, x3, some (.ref f), some (Pair p), some (.int s), some (Pair q), some (.int b), v, none, none] ((N ++ [c]).set f (.lst ((acc ++ (FL p s (lapsN p q) q b).take 1).map D.int)))) :
    wpSs (tab T11) fmB E [x0, x1, x2, x3, some (.ref f), some (Pair p), some (.int s), some (Pair q), some (.int b), x9, none, none] N := by
  have g0 := gcd_pos' (m := q.1) hp.1
  obtain ⟨l0, l1⟩ := laps_le hp hq
  have gq : (Int.gcd p.1 q.1 : Int) ≤ q.1 := Int.le_of_dvd (by have := hq.1; omega) (Int.gcd_dvd_right (a := p.1) (b := q.1))
  have q2 := hq.2.1
  refine ⟨rfl, p.1, q.1, rfl, by have := hp.1; omega, by have := hq.1; omega, div_ok g0 (by omega), ⟨by omega, by omega⟩, ?_⟩
  refine sl_comp hp (s := s) (W := lapsN p q) (by unfold lapsN; omega) ?_ (lapsN p q) 0 (by omega)
  conv => whnf
  rw [hN]
  have hN2 : ∀ v, (N ++ [v])[f]? = some (.lst (acc.map D.int)) := fun v => by rw [List.getElem?_append_left (List.getElem?_eq_some_iff.mp hN).1]; exact hN
  refine fl_comp hq (L := SL p s (lapsN p q)) (b := b) (st := stayD (.lst ((SL p s (lapsN p q)).map D.int)) ((SL p s (lapsN p q)).map D.int)) rfl (by simp [SL, lapsN]; omega) ?_ (SL p s (lapsN p q)) [] rfl
  conv => whnf
  rw [hN2]
  conv => whnf
  rw [last_get]
  have e : cutL ((FL p s (lapsN p q) q b).map D.int) none (some 1) = ((FL p s (lapsN p q) q b).take 1).map D.int := cut_one _
  have z := h (some (.lst ((SL p s (lapsN p q)).map D.int))) (.lst (cutL ((FL p s (lapsN p q) q b).map D.int) none (some 1)))
  rw [List.map_append, ← e] at z
  refine ⟨?_, z⟩
  show (acc.map D.int).length + (cutL ((FL p s (lapsN p q) q b).map D.int) none (some 1)).length ≤ 16777216
  rw [e, List.length_map, List.length_map, List.length_take]
  omega
theorem fm_rest {M : Mem} {Q : DK} {X : XD} {p q : Int × Int} (hp : PieceOk p) (hq : PieceOk q) {s b m : Int} (s0 : 0 ≤ s) (s1 : s < p.1) (b0 : 0 ≤ b) (b1 : b < q.1) (hm : IsFirst p s q b m) (m0 : 0 < m) (h : ∀ M', Kept M M' → Q (.int m) M') :
    wpSs (tab T11) (match Bfirst_minute with | .cons _ r => r | r => r) (dEnds Q X) [some (Pair p), some (.int s), some (Pair q), some (.int b), none, none, none, none, none, none, none, none] M := by
  obtain ⟨k1, k2⟩ := fm_min hp hq s0 s1 b0 b1 hm m0
  have d4 : (4 : Nat) ≤ 16777216 := by decide
  refine ⟨by decide, d4, d4, (by decide : (2 : Nat) ≤ 16777216), ?_⟩
  refine ⟨rfl, ?_⟩
  refine fm_turn (acc := []) hp hq (last_get M _) (by decide) (fun v c => ?_)
  refine ⟨rfl, ?_⟩
  refine fm_turn (acc := [] ++ (FL p s (lapsN p q) q b).take 1) hq hp (set_get (w := .lst []) (by rw [List.getElem?_append_left (by simp)]; exact last_get M _)) (by simp; omega) (fun v2 c2 => ?_)
  refine ⟨rfl, ?_⟩
  conv => whnf
  rw [seqD_ref (set_get (w := .lst (([] ++ (FL p s (lapsN p q) q b).take 1).map D.int)) (by rw [List.getElem?_append_left (by simp)]; exact set_get (w := .lst []) (by rw [List.getElem?_append_left (by simp)]; exact last_get M _)))]
  conv => whnf
  rw [intsD_map]
  refine ⟨fun z => ?_, fun μ h1 h2 => ?_⟩
  · rw [List.nil_append] at z
    rw [z] at k1
    cases k1
  · rw [List.nil_append] at h1 h2
    have e : μ = m := by
      have := h2 m k1
      have := k2 μ h1
      omega
    subst e
    refine h _ ?_
    exact (((((Kept.refl M).snoc _).snoc _).set (Nat.le_refl _) _).snoc _).set (Nat.le_refl _) _
theorem okfirst_minute : ∀ ds M Q X, ds.length = Ffirst_minute.par.length → Ffirst_minute.sp ds M Q X → wpSs (tab T11) Bfirst_minute (dEnds Q X) (dstart Nfirst_minute ds) M := by
  intro ds M Q X hl h
  obtain ⟨p, q, s, b, m, hp, hq, s0, s1, b0, b1, rfl, hm, h⟩ := h
  have rest : ¬ Both p s q b 0 → wpSs (tab T11) (match Bfirst_minute with | .cons _ r => r | r => r) (dEnds Q X) [some (Pair p), some (.int s), some (Pair q), some (.int b), none, none, none, none, none, none, none, none] M := fun z => by
    refine fm_rest hp hq s0 s1 b0 b1 hm ?_ h
    rcases Int.lt_or_eq_of_le hm.1 with w | w
    · exact w
    · exact absurd (by rw [w]; exact hm.2.1) z
  refine ⟨rfl, p, s, 0, hp, rfl, ?_⟩
  by_cases z1 : At p s 0
  · refine iteT (c := decide (At p s 0) = true) (decide_eq_true z1) ?_
    refine ⟨rfl, q, b, 0, hq, rfl, ?_⟩
    by_cases z2 : At q b 0
    · refine iteT (c := decide (At q b 0) = true) (decide_eq_true z2) ?_
      have e : m = 0 := by
        rcases Int.lt_or_eq_of_le hm.1 with w | w
        · exact absurd ⟨z1, z2⟩ (hm.2.2 0 (by decide) w)
        · exact w.symm
      subst e
      exact h M (Kept.refl M)
    · refine iteF (c := decide (At q b 0) = true) (by simpa using z2) ?_
      exact rest fun c => z2 c.2
  · refine iteF (c := decide (At p s 0) = true) (by simpa using z1) ?_
    exact rest fun c => z1 c.1
end K45
set_option pp.deepTerms false
set_option pp.maxSteps 300
namespace K45
open PySem PySem.Spec AA
open L2 (FnScope defScope defBody)
open K10 (gcd_pos' gcd_turn lcm_eq dvd_of_mod pow_small)
open K41 (PieceOk At Both IsFirst Clash clash_iff both_min first_at at_cong First NoBar frS frA frs frS_le frA_le no_clash_room first_lap first_lt mod_le_of)

open K10 (gcd_pos' gcd_turn lcm_eq dvd_of_mod Bars lcmL Fits lcmL_pos lcmL_le fit_step gcd_div_one dvd_lcmL fits_more pow_small put_math)
open K41 (PieceOk At Both IsFirst Clash clash_iff both_min first_at at_cong First NoBar frS frA frs frS_le frA_le no_clash_room room_free first_lap first_lt mod_le_of)
theorem atI_get {l : List D} {j : Nat} {d : D} (h : l[j]? = some d) : L2.atI l (j : Int) = some d := by
  have hj := (List.getElem?_eq_some_iff.mp h).1
  unfold L2.atI L2.ixN
  rw [if_pos (by omega), if_pos (by omega)]
  show l[(j : Int).toNat]? = _
  rw [Int.toNat_natCast]
  exact h
theorem pcs_at {zs : List ZZ} {j : Nat} {z : ZZ} (h : zs[j]? = some z) : L2.atI ((zs.map (·.1)).map Pair) (j : Int) = some (Pair z.1) := atI_get (by rw [List.getElem?_map, List.getElem?_map, h]; rfl)
theorem sts_at {zs : List ZZ} {j : Nat} {z : ZZ} (h : zs[j]? = some z) : L2.atI ((zs.map (·.2)).map D.int) (j : Int) = some (.int z.2) := atI_get (by rw [List.getElem?_map, List.getElem?_map, h]; rfl)
noncomputable abbrev pz (zs : List ZZ) : List D := (zs.map (·.1)).map Pair
noncomputable abbrev sz (zs : List ZZ) : List D := (zs.map (·.2)).map D.int
noncomputable def clB : Ss := match Bclash with | .cons _ (.cons _ (.cons (.for_ _ _ (.cons (.for_ _ _ b) _)) _)) => b | _ => .nil
noncomputable def clO : Ss := match Bclash with | .cons _ (.cons _ (.cons (.for_ _ _ b) _)) => b | _ => .nil
theorem cl_in {E : DE} {M : Mem} {zs : List ZZ} (ok : ZOk zs) {i : Nat} {x : ZZ} (hi : zs[i]? = some x)
    (hrt : ∀ (j : Nat) y, i < j → zs[j]? = some y → zC x y → (∀ (j' : Nat) y', i < j' → j' < j → zs[j']? = some y' → ¬ zC x y') → ∀ m M', IsFirst x.1 x.2 y.1 y.2 m → Kept M M' → E.rt (Ijm i j m) M')
    (hnx : (∀ (j : Nat) y, i < j → zs[j]? = some y → ¬ zC x y) → ∀ t, E.nx [some (Pcs (zs.map (·.1))), some (Sts (zs.map (·.2))), some (.int i), some (Pair x.1), t] M) :
    ∀ (n j : Nat) (t : Option D), i < j → zs.length ≤ j + n → (0 < n → j + n = zs.length) → (∀ (j' : Nat) y', i < j' → j' < j → zs[j']? = some y' → ¬ zC x y') →
    forD (bindT (.nm 4)) (wpSs (tab T12) clB) (fun _ => True) E (rngL j n) [some (Pcs (zs.map (·.1))), some (Sts (zs.map (·.2))), some (.int i), some (Pair x.1), t] M
  | 0, j, t, hij, hn, _, hb => ⟨trivial, hnx (fun j' y' h1 h2 => hb j' y' h1 (by have := (List.getElem?_eq_some_iff.mp h2).1; omega) h2) t⟩
  | n + 1, j, t, hij, hn, hn2, hb => by
    rw [rngL_succ]
    have hlt : j < zs.length := by have := hn2 (by omega); omega
    obtain ⟨y, hy⟩ : ∃ y, zs[j]? = some y := ⟨_, List.getElem?_eq_getElem hlt⟩
    obtain ⟨hp, s0, s1⟩ := ok.2.2 x (List.mem_of_getElem? hi)
    obtain ⟨hq, b0, b1⟩ := ok.2.2 y (List.mem_of_getElem? hy)
    refine ⟨trivial, ?_⟩
    refine idxD_of (M := M) (x := Sts (zs.map (·.2))) (xs := sz zs) rfl (sts_at hi) ?_
    refine idxD_of (M := M) (x := Pcs (zs.map (·.1))) (xs := pz zs) rfl (pcs_at hy) ?_
    refine idxD_of (M := M) (x := Sts (zs.map (·.2))) (xs := sz zs) rfl (sts_at hy) ?_
    refine ⟨rfl, x.1, y.1, x.2, y.2, hp, hq, rfl, fun c => ?_, fun c => ?_⟩
    · obtain ⟨m, hm⟩ := both_min ((clash_iff hp hq).mp c)
      refine idxD_of (M := M) (x := Sts (zs.map (·.2))) (xs := sz zs) rfl (sts_at hi) ?_
      refine idxD_of (M := M) (x := Pcs (zs.map (·.1))) (xs := pz zs) rfl (pcs_at hy) ?_
      refine idxD_of (M := M) (x := Sts (zs.map (·.2))) (xs := sz zs) rfl (sts_at hy) ?_
      exact ⟨rfl, x.1, y.1, x.2, y.2, m, hp, hq, s0, s1, b0, b1, rfl, hm, fun M' hk => ⟨(by decide : (3 : Nat) ≤ 16777216), hrt j y hij hy c hb m M' hm hk⟩⟩
    · have next := cl_in ok hi hrt hnx n (j + 1) (some (.int j)) (by omega) (by omega) (fun h => by have := hn2 (by omega); omega) (fun j' y' h1 h2 h3 => by
        by_cases e : j' = j
        · subst e; rw [hy] at h3; cases h3; exact c
        · exact hb j' y' h1 (by omega) h3)
      have e : ((j + 1 : Nat) : Int) = (j : Int) + 1 := by omega
      rw [e] at next
      exact next
theorem cl_in' {E : DE} {M : Mem} {zs : List ZZ} (ok : ZOk zs) {i : Nat} {x : ZZ} (hi : zs[i]? = some x) {lo : Int} (hlo : lo = ((i + 1 : Nat) : Int)) {n : Nat} (hn : n = zs.length - (i + 1)) {t : Option D}
    (hrt : ∀ (j : Nat) y, i < j → zs[j]? = some y → zC x y → (∀ (j' : Nat) y', i < j' → j' < j → zs[j']? = some y' → ¬ zC x y') → ∀ m M', IsFirst x.1 x.2 y.1 y.2 m → Kept M M' → E.rt (Ijm i j m) M')
    (hnx : (∀ (j : Nat) y, i < j → zs[j]? = some y → ¬ zC x y) → ∀ t, E.nx [some (Pcs (zs.map (·.1))), some (Sts (zs.map (·.2))), some (.int i), some (Pair x.1), t] M) :
    forD (bindT (.nm 4)) (wpSs (tab T12) clB) (fun _ => True) E (rngL lo n) [some (Pcs (zs.map (·.1))), some (Sts (zs.map (·.2))), some (.int i), some (Pair x.1), t] M := by
  subst hlo hn
  have := (List.getElem?_eq_some_iff.mp hi).1
  exact cl_in ok hi hrt hnx _ (i + 1) t (by omega) (by omega) (fun h => by omega) (fun j' q' h1 h2 _ => by omega)
theorem cl_out {E : DE} {M : Mem} {zs : List ZZ} (ok : ZOk zs) (hrt : ∀ i j m M', FirstM zs i j m → Kept M M' → E.rt (Ijm i j m) M') (hnx : NoBar zC zs → ∀ a b c, E.nx [some (Pcs (zs.map (·.1))), some (Sts (zs.map (·.2))), a, b, c] M) :
    ∀ (rest done : List ZZ) (a b c : Option D), zs = done ++ rest → (∀ (i j : Nat) p q, i < done.length → i < j → zs[i]? = some p → zs[j]? = some q → ¬ zC p q) →
    forD (bindT (.tp (.cons (.nm 2) (.cons (.nm 3) .nil)))) (wpSs (tab T12) clO) (stayD (Pcs (zs.map (·.1))) (pz zs)) E (itemsAt done.length (rest.map (·.1))) [some (Pcs (zs.map (·.1))), some (Sts (zs.map (·.2))), a, b, c] M
  | [], done, a, b, c, e, h => by
    rw [List.append_nil] at e
    refine ⟨rfl, hnx (fun i j p q hij hi hj => h i j p q (by rw [← e]; exact (List.getElem?_eq_some_iff.mp hi).1) hij hi hj) a b c⟩
  | x :: rest, done, a, b, c, e, h => by
    rw [List.map_cons, itemsAt_cons]
    have hi : zs[done.length]? = some x := by rw [e, List.getElem?_append_right (Nat.le_refl _)]; simp
    have hl : zs.length ≤ 5 := ok.2.1
    have l : (List.map Pair (List.map (fun x : ZZ => x.1) zs)).length = zs.length := by simp
    have hlt := (List.getElem?_eq_some_iff.mp hi).1
    refine ⟨rfl, ⟨by omega, by omega⟩, ⟨by omega, by omega⟩, ?_⟩
    refine cl_in' ok hi (by omega) (by omega) (fun j y hij hy hb hf m M' hm hk => ?_) (fun hno t => ?_)
    · refine hrt done.length j m M' ⟨⟨hij, ⟨x, y, hi, hy, hb⟩, fun i' j' p' q' h1 h2 h3 h4 => ?_⟩, x, y, hi, hy, hm⟩ hk
      rcases h2 with h2 | ⟨h2, h5⟩
      · exact h i' j' p' q' h2 h1 h3 h4
      · subst h2
        rw [hi] at h3; cases h3
        exact hf j' q' h1 h5 h4
    · have next := cl_out (E := E) (M := M) ok hrt hnx rest (done ++ [x]) (some (.int done.length)) (some (Pair x.1)) t (by rw [e, List.append_assoc]; rfl) (fun i j p' q' h1 h2 h3 h4 => by
        rw [List.length_append] at h1
        by_cases z : i = done.length
        · subst z
          rw [hi] at h3; cases h3
          exact hno j q' h2 h4
        · exact h i j p' q' (by simp at h1; omega) h2 h3 h4)
      rw [List.length_append] at next
      exact next
theorem ZOk.ps {zs : List ZZ} (ok : ZOk zs) : PsOk (zs.map (·.1)) := ⟨by simpa using ok.1, by simpa using ok.2.1, fun p hp => by
  obtain ⟨z, hz, rfl⟩ := List.mem_map.mp hp
  exact (ok.2.2 z hz).1⟩
theorem okclash : ∀ ds M Q X, ds.length = Fclash.par.length → Fclash.sp ds M Q X → wpSs (tab T12) Bclash (dEnds Q X) (dstart Nclash ds) M := by
  intro ds M Q X hl h
  obtain ⟨zs, ok, rfl, h1, h2⟩ := h
  refine ⟨rfl, zs.map (·.1), ok.ps, rfl, rfl, zs, ok, rfl, ?_⟩
  exact cl_out ok (fun i j m M' => h1 i j m M') (fun nb a b c => h2 nb) zs [] none none none rfl (fun i j p q hi => absurd hi (Nat.not_lt_zero _))
/-! ### the law's own -/
end K45
set_option pp.deepTerms false
set_option pp.maxSteps 300
namespace K45
open PySem PySem.Spec AA
open L2 (FnScope defScope defBody)
open K10 (gcd_pos' gcd_turn lcm_eq dvd_of_mod pow_small)
open K41 (PieceOk At Both IsFirst Clash clash_iff both_min first_at at_cong First NoBar frS frA frs frS_le frA_le no_clash_room first_lap first_lt mod_le_of)

open K10 (gcd_pos' gcd_turn lcm_eq dvd_of_mod Bars lcmL Fits lcmL_pos lcmL_le fit_step gcd_div_one dvd_lcmL fits_more pow_small put_math)
open K41 (PieceOk At Both IsFirst Clash clash_iff both_min first_at at_cong First NoBar frS frA frs frS_le frA_le no_clash_room room_free first_lap first_lt mod_le_of)
/-! ### pieces that may be tried -/
theorem frs_le {ps : List (Int × Int)} : ∀ (rest : List (Int × Int)) (i : Nat), (∀ p ∈ rest, PieceOk p) → ∀ f ∈ frs ps i rest, 1 ≤ f ∧ f ≤ 1440 ^ ps.length
  | [], i, _, f, hf => by cases hf
  | p :: rest, i, h, f, hf => by
    obtain ⟨p1, p2, _⟩ := h p List.mem_cons_self
    rcases List.mem_cons.mp hf with rfl | hf
    · have := frA_le (i := i) p1 p2 ps 0 1 (by decide)
      rwa [Int.one_mul] at this
    · exact frs_le rest (i + 1) (fun q hq => h q (List.mem_cons_of_mem _ hq)) f hf
theorem pow_le {k : Nat} (h : k ≤ 5) : (1440 : Int) ^ k ≤ 10 ^ 18 := by
  have : k = 0 ∨ k = 1 ∨ k = 2 ∨ k = 3 ∨ k = 4 ∨ k = 5 := by omega
  rcases this with rfl | rfl | rfl | rfl | rfl | rfl <;> decide
theorem cut_tail (l : List Int) : cutL (l.map D.int) (some 1) none = l.tail.map D.int := by
  unfold cutL
  rw [HT.sIx_none, show (1 : Int) = ((1 : Nat) : Int) from rfl, HT.sIx_nat]
  cases l with
  | nil => simp
  | cons a l =>
    rw [List.take_of_length_le (by simp)]
    simp
noncomputable def ctB : Ss := match Bcheck_tried with | .cons _ (.cons _ (.cons (.for_ _ _ b) _)) => b | _ => .nil
theorem ct_loop {E : DE} {N : Mem} {st : Mem → Prop} (hst : st N) {x0 : Option D} : ∀ (fs : List Int) (acc : Int) (x2 : Option D), (∀ f ∈ fs, 1 ≤ f ∧ f ≤ 10 ^ 18) → (∀ x2, E.nx [x0, some (.int (acc * prodZ fs)), x2] N) →
    forD (bindT (.nm 2)) (wpSs (tab T13) ctB) st E (fs.map D.int) [x0, some (.int acc), x2] N
  | [], acc, x2, _, h => by
    refine ⟨hst, ?_⟩
    have := h x2
    rwa [show acc * prodZ [] = acc by simp [prodZ]] at this
  | f :: fs, acc, x2, hf, h => by
    obtain ⟨f0, f1⟩ := hf f List.mem_cons_self
    refine ⟨hst, mul_r (by omega) (by omega), ?_⟩
    exact ct_loop hst fs (acc * f) _ (fun g hg => hf g (List.mem_cons_of_mem _ hg)) fun x2 => by
      rw [Int.mul_assoc]
      exact h x2
theorem frs_rng {ps : List (Int × Int)} (ok : PsOk ps) : ∀ f ∈ frs ps 0 ps, 1 ≤ f ∧ f ≤ 10 ^ 18 := fun f hf => by
  have := frs_le ps 0 ok.2.2 f hf
  exact ⟨this.1, Int.le_trans this.2 (pow_le ok.2.1)⟩
theorem okcheck_tried : ∀ ds M Q X, ds.length = Fcheck_tried.par.length → Fcheck_tried.sp ds M Q X → wpSs (tab T13) Bcheck_tried (dEnds Q X) (dstart Ncheck_tried ds) M := by
  intro ds M Q X hl h
  obtain ⟨ps, ok, rfl, h, hx⟩ := h
  refine ⟨rfl, ps, ok, rfl, ?_⟩
  refine ⟨rfl, ps, ok, rfl, ?_⟩
  conv => whnf
  rw [lstD_ref (last_get M _)]
  conv => whnf
  rw [cut_tail, seqD_ref (last_get _ _)]
  refine ct_loop (st := stayD _ _) (seqD_ref (last_get _ _)) (frs ps 0 ps).tail 1 none (fun f hf => frs_rng ok f (List.mem_of_mem_tail hf)) fun x2 => ?_
  rw [Int.one_mul]
  have kp : Kept M (M ++ [MO.lst ((frs ps 0 ps).map D.int)] ++ [MO.lst ((frs ps 0 ps).tail.map D.int)]) := ((Kept.refl M).snoc _).snoc _
  by_cases hw : ways (frs ps 0 ps) ≤ 20000
  · refine iteF (c := decide (20000 < prodZ (frs ps 0 ps).tail) = true) (by rw [decide_eq_false (by unfold ways at hw; omega)]; decide) ?_
    exact h hw _ kp
  · refine iteT (c := decide (20000 < prodZ (frs ps 0 ps).tail) = true) (by rw [decide_eq_true (by unfold ways at hw; omega)]) ?_
    exact hx (by omega) _ kp
/-! ### the first that clashes with the last -/
noncomputable def cgB : Ss := match Bclashing with | .cons _ (.cons (.for_ _ _ b) _) => b | _ => .nil
theorem zip_get {ps : List (Int × Int)} {ss : List Int} {i : Nat} {p : Int × Int} {s : Int} (h1 : ps[i]? = some p) (h2 : ss[i]? = some s) : (ps.zip ss)[i]? = some (p, s) := by
  rw [List.getElem?_zip_eq_some]
  exact ⟨h1, h2⟩
theorem find_range {p : Nat → Bool} : ∀ (n lo : Nat), (∀ i, i < lo → p i = false) → ((List.range (lo + n)).find? p = ((List.range' lo n).find? p))
  | n, lo, h => by
    rw [List.range_eq_range', ← List.range'_append_1]
    rw [List.find?_append]
    have e : (List.range' 0 lo).find? p = none := List.find?_eq_none.mpr fun i hi => by
      have := List.mem_range'_1.mp hi
      rw [h i (by omega)]
      exact Bool.false_ne_true
    rw [e, Nat.zero_add]
    rfl
theorem cg_loop {E : DE} {M : Mem} {ps : List (Int × Int)} {ss : List Int} (ok : PsOk ps) (hs : ss ≠ []) (hl : ss.length ≤ ps.length) (hrt : ∀ i : Nat, clashAt ps ss = some i → E.rt (.int i) M) (hE : ∀ x3, clashAt ps ss = none → E.nx [some (Pcs ps), some (Sts ss), some (.int ((ss.length : Int) - 1)), x3] M) :
    ∀ (n lo : Nat) (x3 : Option D), lo + n = ss.length - 1 → (∀ i, i < lo → clB1 (ps.zip ss) i = false) →
    forD (bindT (.nm 3)) (wpSs (tab T14) cgB) (fun _ => True) E (rngL lo n) [some (Pcs ps), some (Sts ss), some (.int ((ss.length : Int) - 1)), x3] M
  | 0, lo, x3, hn, hb => by
    refine ⟨trivial, hE x3 ?_⟩
    unfold clashAt
    rw [← hn, find_range 0 lo hb]
    rfl
  | n + 1, lo, x3, hn, hb => by
    rw [rngL_succ]
    have hlz : (ps.zip ss).length = ss.length := by rw [List.length_zip]; omega
    have i1 : lo < ss.length := by omega
    have i2 : ss.length - 1 < ss.length := by omega
    have a1 : ps[lo]? = some (ps[lo]'(by omega)) := List.getElem?_eq_getElem _
    have a2 : ss[lo]? = some (ss[lo]'i1) := List.getElem?_eq_getElem _
    have b1 : ps[ss.length - 1]? = some (ps[ss.length - 1]'(by omega)) := List.getElem?_eq_getElem _
    have b2 : ss[ss.length - 1]? = some (ss[ss.length - 1]'i2) := List.getElem?_eq_getElem _
    have pa : L2.atI (ps.map Pair) ((lo : Nat) : Int) = some (Pair (ps[lo]'(by omega))) := atI_get (by rw [List.getElem?_map, a1]; rfl)
    have sa : L2.atI (ss.map D.int) ((lo : Nat) : Int) = some (.int (ss[lo]'i1)) := atI_get (by rw [List.getElem?_map, a2]; rfl)
    have pb : L2.atI (ps.map Pair) ((ss.length : Int) - 1) = some (Pair (ps[ss.length - 1]'(by omega))) := by
      rw [show (ss.length : Int) - 1 = ((ss.length - 1 : Nat) : Int) by omega]
      exact atI_get (by rw [List.getElem?_map, b1]; rfl)
    have sb : L2.atI (ss.map D.int) ((ss.length : Int) - 1) = some (.int (ss[ss.length - 1]'i2)) := by
      rw [show (ss.length : Int) - 1 = ((ss.length - 1 : Nat) : Int) by omega]
      exact atI_get (by rw [List.getElem?_map, b2]; rfl)
    have ea : (ps.zip ss)[lo]? = some (ps[lo]'(by omega), ss[lo]'i1) := zip_get a1 a2
    have eb : (ps.zip ss)[(ps.zip ss).length - 1]? = some (ps[ss.length - 1]'(by omega), ss[ss.length - 1]'i2) := by rw [hlz]; exact zip_get b1 b2
    refine ⟨trivial, ?_⟩
    refine idxD_of (M := M) (x := Pcs ps) rfl pa ?_
    refine idxD_of (M := M) (x := Sts ss) rfl sa ?_
    refine idxD_of (M := M) (x := Pcs ps) rfl pb ?_
    refine idxD_of (M := M) (x := Sts ss) rfl sb ?_
    refine ⟨rfl, _, _, _, _, ok.2.2 _ (List.getElem_mem _), ok.2.2 _ (List.getElem_mem _), rfl, fun hc => ?_, fun hc => ?_⟩
    · refine hrt lo ?_
      have t : clB1 (ps.zip ss) lo = true := by
        unfold clB1
        rw [ea, eb]
        exact decide_eq_true hc
      unfold clashAt
      rw [← hn, find_range (n + 1) lo hb, List.range'_succ, List.find?_cons_of_pos t]
    · have next := cg_loop ok hs hl hrt hE n (lo + 1) (some (.int lo)) (by omega) fun i hi => by
        by_cases w : i = lo
        · subst w
          unfold clB1
          rw [ea, eb]
          exact decide_eq_false hc
        · exact hb i (by omega)
      rw [show ((lo + 1 : Nat) : Int) = (lo : Int) + 1 by omega] at next
      exact next
theorem okclashing : ∀ ds M Q X, ds.length = Fclashing.par.length → Fclashing.sp ds M Q X → wpSs (tab T14) Bclashing (dEnds Q X) (dstart Nclashing ds) M := by
  intro ds M Q X hl h
  obtain ⟨ps, ss, ok, hs, hle, rfl, h⟩ := h
  have h : Q (optD (clashAt ps ss)) M := h
  have l : ((ss.map D.int).length : Int) = ss.length := by rw [List.length_map]
  have lp : 0 < ss.length := List.length_pos_iff.mpr hs
  have l5 := ok.2.1
  have go : forD (bindT (.nm 3)) (wpSs (tab T14) cgB) (fun _ => True) { nx := wpSs (tab T14) (.cons (.ret .non) .nil) (dEnds Q X), rt := Q, bk := fun _ _ => False, ct := fun _ _ => False, xc := fun c d _ M' => X c d M' } (rngL (0 : Nat) (ss.length - 1)) [some (Pcs ps), some (Sts ss), some (.int ((ss.length : Int) - 1)), none] M := by
    refine cg_loop ok hs hle (fun i hi => ?_) (fun x3 hn => ?_) (ss.length - 1) 0 none (by omega) (fun i hi => by omega)
    · rw [hi] at h; exact h
    · rw [hn] at h; exact h
  refine ⟨⟨by rw [l]; omega, by rw [l]; omega⟩, ?_⟩
  have e : (((ss.map D.int).length : Int) - 1).toNat = ss.length - 1 := by rw [l]; omega
  rw [e, l]
  exact go
end K45
set_option pp.deepTerms false
set_option pp.maxSteps 300
namespace K45
open PySem PySem.Spec AA
open L2 (FnScope defScope defBody)
open K10 (gcd_pos' gcd_turn lcm_eq dvd_of_mod pow_small)
open K41 (PieceOk At Both IsFirst Clash clash_iff both_min first_at at_cong First NoBar frS frA frs frS_le frA_le no_clash_room first_lap first_lt mod_le_of)

open K10 (gcd_pos' gcd_turn lcm_eq dvd_of_mod Bars lcmL Fits lcmL_pos lcmL_le fit_step gcd_div_one dvd_lcmL fits_more pow_small put_math)
open K41 (PieceOk At Both IsFirst Clash clash_iff both_min first_at at_cong First NoBar frS frA frs frS_le frA_le no_clash_room room_free first_lap first_lt mod_le_of)
/-! ### placing: what waits, what is left out -/
theorem pds_sts : ∀ bs : List (List Int), pds (bs.map Sts) = some (bs.map fun b => .tuple (b.map PyData.int))
  | [] => rfl
  | b :: bs => by
    have e : pd (Sts b) = some (.tuple (b.map PyData.int)) := pd_tints b
    simp only [List.map_cons, pds, e, pds_sts bs]
theorem lay_sts : ∀ bs : List (List Int), PyData.canLayAll0 (bs.map fun b => PyData.tuple (b.map PyData.int)) = true
  | [] => rfl
  | b :: bs => by simp only [List.map_cons, PyData.canLayAll0, PyData.canLay0, lay_ints b, lay_sts bs, Bool.and_self]
theorem deep_sts : ∀ bs : List (List Int), PyData.depthAll (bs.map fun b => PyData.tuple (b.map PyData.int)) ≤ 2
  | [] => by simp [PyData.depthAll]
  | b :: bs => by
    have h1 := deep_ints b
    have h2 := deep_sts bs
    simp only [List.map_cons, PyData.depthAll, PyData.depth]
    omega
theorem shaped_sts (bs : List (List Int)) : SeqAt.shaped (.list (bs.map fun b => PyData.tuple (b.map PyData.int))) = true := by
  have := deep_sts bs
  unfold SeqAt.shaped
  rw [Bool.and_eq_true]
  refine ⟨by simp only [PyData.canLay0]; exact lay_sts bs, decide_eq_true ?_⟩
  simp only [PyData.depth]
  omega
theorem ne_go {N : Mem} {w : Nat} {bs : List (List Int)} {k : Bool → Prop} (hw : N[w]? = some (.lst (bs.map Sts))) (h : k (!bs.isEmpty)) : cmpD .ne N (.ref w) (.lst []) k := by
  have e1 : pdM N (.ref w) = some (.list (bs.map fun b => .tuple (b.map PyData.int))) := by simp only [pdM, hw, pds_sts]
  have e2 : pdM N (.lst []) = some (.list []) := rfl
  show eqRest N (.ref w) (.lst []) fun b => k (!b)
  unfold eqRest
  rw [e1, e2]
  refine ⟨shaped_sts bs, shaped_sts [], ?_⟩
  cases bs with
  | nil =>
    have e : (!PyData.eqv (.list []) (.list [])) = false := by simp [PyData.eqv, PyData.eqvAll]
    show k (!PyData.eqv (.list []) (.list []))
    rw [e]; exact h
  | cons b bs =>
    have e : (!PyData.eqv (.list ((b :: bs).map fun b => PyData.tuple (b.map PyData.int))) (.list [])) = true := by simp [PyData.eqv, PyData.eqvAll]
    rw [e]; exact h
theorem popD_go {ys : List D} {y : D} {k : D → List D → Prop} (h : k y ys) : popD (ys ++ [y]) k := by
  unfold popD
  rw [List.getLast?_append, List.getLast?_singleton]
  simp only [Option.or_some, Option.some_or, List.dropLast_concat]
  exact h
noncomputable def nodes : List Int → Nat
  | [] => 1
  | f :: fs => 1 + f.toNat * nodes fs
theorem prod_pos : ∀ {fs : List Int}, (∀ f ∈ fs, 1 ≤ f) → 1 ≤ prodZ fs
  | [], _ => by decide
  | f :: fs, h => by
    have h1 := prod_pos (fs := fs) fun g hg => h g (List.mem_cons_of_mem _ hg)
    have h2 := h f List.mem_cons_self
    exact Int.le_trans (show (1 : Int) ≤ 1 * 1 by decide) (Int.mul_le_mul h2 h1 (by decide) (by omega))
theorem mem_prod : ∀ {fs : List Int} {f : Int}, (∀ f ∈ fs, 1 ≤ f) → f ∈ fs → f ≤ prodZ fs
  | g :: fs, f, h, hf => by
    have h1 := prod_pos (fs := fs) fun g hg => h g (List.mem_cons_of_mem _ hg)
    have h2 := h g List.mem_cons_self
    rcases List.mem_cons.mp hf with rfl | hf
    · have := Int.mul_le_mul_of_nonneg_left h1 (show (0 : Int) ≤ f by omega)
      rw [Int.mul_one] at this
      exact this
    · have i := mem_prod (fun g hg => h g (List.mem_cons_of_mem _ hg)) hf
      have := Int.mul_le_mul_of_nonneg_right h2 (show (0 : Int) ≤ prodZ fs by omega)
      rw [Int.one_mul] at this
      exact Int.le_trans i this
theorem nodes_le : ∀ {fs : List Int}, (∀ f ∈ fs, 1 ≤ f) → (nodes fs : Int) ≤ (fs.length + 1) * prodZ fs
  | [], _ => by simp [nodes, prodZ]
  | f :: fs, h => by
    have i := nodes_le (fs := fs) fun g hg => h g (List.mem_cons_of_mem _ hg)
    have h1 := prod_pos (fs := fs) fun g hg => h g (List.mem_cons_of_mem _ hg)
    have h2 := h f List.mem_cons_self
    have h3 := prod_pos h
    have e : (nodes (f :: fs) : Int) = 1 + f * nodes fs := by
      show ((1 + f.toNat * nodes fs : Nat) : Int) = _
      rw [Int.natCast_add, Int.natCast_mul, Int.toNat_of_nonneg (by omega)]
      rfl
    have a := Int.mul_le_mul_of_nonneg_left i (show (0 : Int) ≤ f by omega)
    have b : f * ((fs.length + 1) * prodZ fs) = (fs.length + 1) * prodZ (f :: fs) := by
      show _ = (fs.length + 1) * (f * prodZ fs)
      ac_rfl
    rw [b] at a
    rw [e, List.length_cons, Int.natCast_add, Int.add_mul]
    have : ((1 : Nat) : Int) * prodZ (f :: fs) = prodZ (f :: fs) := by rw [Int.natCast_one, Int.one_mul]
    rw [Int.add_mul] at a ⊢
    omega
/-! ### beginnings that go on -/
theorem zip_len {ps : List (Int × Int)} {b : List Int} (h : b.length ≤ ps.length) : (ps.zip b).length = b.length := by rw [List.length_zip]; omega
theorem clash_some {ps : List (Int × Int)} {b : List Int} (hl : b.length ≤ ps.length) {i : Nat} (h : clashAt ps b = some i) : i + 1 < b.length ∧ ∃ x y, (ps.zip b)[i]? = some x ∧ (ps.zip b)[b.length - 1]? = some y ∧ zC x y := by
  unfold clashAt at h
  have h1 := List.find?_some h
  have h2 := List.mem_range.mp (List.mem_of_find?_eq_some h)
  unfold clB1 at h1
  rw [zip_len hl] at h1
  split at h1
  · rename_i x y e1 e2
    exact ⟨by omega, x, y, e1, e2, of_decide_eq_true h1⟩
  · cases h1
theorem zip_take {ps : List (Int × Int)} {ss b : List Int} (h : ss.take b.length = b) {i : Nat} (hi : i < b.length) : (ps.zip ss)[i]? = (ps.zip b)[i]? := by
  have e : b[i]? = ss[i]? := by
    have q := congrArg (fun l : List Int => l[i]?) h
    simp only [List.getElem?_take, if_pos hi] at q
    exact q.symm
  simp only [List.zip_eq_zipWith, List.getElem?_zipWith, e]
theorem bar_of {ps : List (Int × Int)} {ss b : List Int} (hl : b.length ≤ ps.length) {i : Nat} (hc : clashAt ps b = some i) (h : ss.take b.length = b) : ¬ NoBar zC (ps.zip ss) := fun nb => by
  obtain ⟨hi, x, y, e1, e2, c⟩ := clash_some hl hc
  exact nb i (b.length - 1) x y (by omega) ((zip_take h (by omega)).trans e1) ((zip_take h (by omega)).trans e2) c
theorem free_of {ps : List (Int × Int)} {b : List Int} (hl : b.length ≤ ps.length) (hc : clashAt ps b = none) (h : NoBar zC (ps.zip b.dropLast)) : NoBar zC (ps.zip b) := by
  intro i j x y hij hi hj
  have hjl : j < b.length := by
    have := (List.getElem?_eq_some_iff.mp hj).1
    rwa [zip_len hl] at this
  by_cases z : j = b.length - 1
  · subst z
    intro c
    unfold clashAt at hc
    have := List.find?_eq_none.mp hc i (List.mem_range.mpr hij)
    refine this ?_
    unfold clB1
    rw [zip_len hl, hi, hj]
    exact decide_eq_true c
  · have t : b.take b.dropLast.length = b.dropLast := by rw [List.length_dropLast, List.dropLast_eq_take]
    have hd : b.dropLast.length = b.length - 1 := List.length_dropLast ..
    exact h i j x y hij ((zip_take t (by omega)).symm.trans hi) ((zip_take t (by omega)).symm.trans hj)
theorem begun_snoc {ps : List (Int × Int)} {b : List Int} {s f : Int} (h : Begun ps b) (hb : b ≠ []) (hl : b.length < ps.length) (hf : (frs ps 0 ps)[b.length]? = some f) (s0 : 0 ≤ s) (s1 : s < f) : Begun ps (b ++ [s]) := by
  obtain ⟨h1, h2, h3⟩ := h
  have lp : 0 < b.length := List.length_pos_iff.mpr hb
  refine ⟨by simp; omega, fun t ht => h2 t ?_, fun i t g ht hg => ?_⟩
  · rw [List.getElem?_append_left lp] at ht; exact ht
  · by_cases z : i < b.length
    · rw [List.getElem?_append_left z] at ht
      exact h3 i t g ht hg
    · have hi : i < (b ++ [s]).length := (List.getElem?_eq_some_iff.mp ht).1
      have e : i = b.length := by simp at hi; omega
      subst e
      rw [List.getElem?_append_right (Nat.le_refl _), Nat.sub_self] at ht
      cases ht
      rw [hf] at hg; cases hg
      exact ⟨s0, s1⟩
theorem take_snoc {ss b : List Int} (h : ss.take b.length = b) (hl : b.length < ss.length) : ss.take (b.length + 1) = b ++ [ss[b.length]] := by
  rw [List.take_add_one, h, List.getElem?_eq_getElem hl]
  rfl
noncomputable def kidD (b : List Int) (x : D) : D := .tup (b.map D.int ++ [x])
theorem kids_map (b : List Int) (n : Nat) : (rngL 0 n).map (kidD b) = (kidsL b 0 n).map Sts := by
  unfold rngL kidsL
  rw [List.map_map, List.map_map]
  refine List.map_congr_left fun i _ => ?_
  show D.tup (b.map D.int ++ [.int (0 + (i : Nat))]) = D.tup ((b ++ [((0 + i : Nat) : Int)]).map D.int)
  rw [List.map_append, show ((0 + i : Nat) : Int) = 0 + (i : Int) by omega]
  rfl
/-! ### the loop -/
noncomputable def plB : Ss := match Bplacing with | .cons _ (.cons _ (.cons (.while_ _ b) _)) => b | _ => .nil
noncomputable def plC : E := .cmp .ne (.var 3) (.lst false .nil)
structure Mm (ps : List (Int × Int)) (M0 N : Mem) (z c w : Nat) (R : List (List Int)) (cs : List D) : Prop where
  kept : Kept M0 N
  hz : N[z]? = some (.lst ((frs ps 0 ps).map D.int))
  hc : N[c]? = some (.lst cs)
  hw : N[w]? = some (.lst (R.map Sts))
  nz : M0.length ≤ z
  nc : M0.length ≤ c
  nw : M0.length ≤ w
  zc : z ≠ c
  zw : z ≠ w
  cw : c ≠ w
section
variable {ps : List (Int × Int)} {M0 N : Mem} {z c w : Nat} {R : List (List Int)} {b : List Int} {cs : List D}
theorem Mm.pop (h : Mm ps M0 N z c w (R ++ [b]) cs) : Mm ps M0 (N.set w (.lst (R.map Sts))) z c w R cs :=
  ⟨h.kept.set h.nw _, by rw [List.getElem?_set_ne (Ne.symm h.zw)]; exact h.hz, by rw [List.getElem?_set_ne (Ne.symm h.cw)]; exact h.hc, List.getElem?_set_self (List.getElem?_eq_some_iff.mp h.hw).1, h.nz, h.nc, h.nw, h.zc, h.zw, h.cw⟩
theorem Mm.case (h : Mm ps M0 N z c w R cs) (d : D) : Mm ps M0 (N.set c (.lst (cs ++ [d]))) z c w R (cs ++ [d]) :=
  ⟨h.kept.set h.nc _, by rw [List.getElem?_set_ne (Ne.symm h.zc)]; exact h.hz, List.getElem?_set_self (List.getElem?_eq_some_iff.mp h.hc).1, by rw [List.getElem?_set_ne h.cw]; exact h.hw, h.nz, h.nc, h.nw, h.zc, h.zw, h.cw⟩
theorem Mm.more (h : Mm ps M0 N z c w R cs) (a : MO) : Mm ps M0 (N ++ [a]) z c w R cs := by
  have g : ∀ {k : Nat} {o : MO}, N[k]? = some o → (N ++ [a])[k]? = some o := fun e => by rw [List.getElem?_append_left (List.getElem?_eq_some_iff.mp e).1]; exact e
  exact ⟨h.kept.snoc _, g h.hz, g h.hc, g h.hw, h.nz, h.nc, h.nw, h.zc, h.zw, h.cw⟩
theorem Mm.push (h : Mm ps M0 N z c w R cs) (K : List (List Int)) : Mm ps M0 (N.set w (.lst (R.map Sts ++ K.map Sts))) z c w (R ++ K) cs :=
  ⟨h.kept.set h.nw _, by rw [List.getElem?_set_ne (Ne.symm h.zw)]; exact h.hz, by rw [List.getElem?_set_ne (Ne.symm h.cw)]; exact h.hc, by rw [List.getElem?_set_self (List.getElem?_eq_some_iff.mp h.hw).1, List.map_append], h.nz, h.nc, h.nw, h.zc, h.zw, h.cw⟩
end
noncomputable def plD (ps : List (Int × Int)) (z c w : Nat) (x4 x5 x6 : Option D) : Dst := [some (Pcs ps), some (.ref z), some (.ref c), some (.ref w), x4, x5, x6]
/-- the loop goes on from what waits, the cases so far -/
noncomputable def Go (E : DE) (ps : List (Int × Int)) (M0 : Mem) (z c w : Nat) (R : List (List Int)) (cs : List (List Int × Nat)) : Prop :=
  ∀ N x4 x5 x6, Mm ps M0 N z c w R (cs.map caseD) → ∃ n, whileN (wpT (tab T15) plC) (wpSs (tab T15) plB) E n (plD ps z c w x4 x5 x6) N
theorem leaves_len {ps : List (Int × Int)} (fl : (frs ps 0 ps).length = ps.length) : ∀ (k : Nat) (b : List Int), b.length + k = ps.length → (leaves ps k b).length ≤ nodes ((frs ps 0 ps).drop b.length)
  | 0, b, hk => by
    have hd : (frs ps 0 ps).drop b.length = [] := List.drop_eq_nil_of_le (by omega)
    rw [hd]
    cases hc : clashAt ps b with
    | some i => rw [leaves_some hc]; exact Nat.le_refl _
    | none => rw [leaves_0 hc]; exact Nat.zero_le _
  | k + 1, b, hk => by
    have lt : b.length < (frs ps 0 ps).length := by omega
    obtain ⟨f, hf⟩ : ∃ f, (frs ps 0 ps)[b.length]? = some f := ⟨_, List.getElem?_eq_getElem lt⟩
    have hd : (frs ps 0 ps).drop b.length = f :: (frs ps 0 ps).drop (b.length + 1) := by
      rw [List.drop_eq_getElem_cons lt]
      rw [List.getElem?_eq_getElem lt] at hf
      cases hf; rfl
    have hn : nodes ((frs ps 0 ps).drop b.length) = 1 + f.toNat * nodes ((frs ps 0 ps).drop (b.length + 1)) := by rw [hd]; rfl
    rw [hn]
    cases hc : clashAt ps b with
    | some i => rw [leaves_some hc]; simp
    | none =>
      rw [leaves_on hc]
      have hs : szN ps b = f.toNat := by unfold szN; rw [hf]; rfl
      rw [hs]
      have go : ∀ (n lo : Nat), ((kidsL b lo n).flatMap (leaves ps k)).length ≤ n * nodes ((frs ps 0 ps).drop (b.length + 1)) := by
        intro n
        induction n with
        | zero => intro lo; exact Nat.zero_le _
        | succ n ih =>
          intro lo
          rw [kidsL_succ, List.flatMap_cons, List.length_append, Nat.succ_mul]
          have h1 := leaves_len fl k (b ++ [(lo : Int)]) (by simp; omega)
          rw [show (b ++ [(lo : Int)]).length = b.length + 1 by simp] at h1
          have h2 := ih (lo + 1)
          omega
      have := go f.toNat 0
      omega
section
variable {E : DE} {ps : List (Int × Int)} {M0 : Mem} {z c w : Nat}
/-- a case -/
theorem go_case (ok : PsOk ps) {R : List (List Int)} {b : List Int} {cs : List (List Int × Nat)} {i : Nat} (hb : b ≠ []) (hl : b.length ≤ ps.length) (hc : clashAt ps b = some i) (hm : cs.length < 10000000) (g : Go E ps M0 z c w R (cs ++ [(b, i)])) : Go E ps M0 z c w (R ++ [b]) cs := by
  intro N x4 x5 x6 mm
  have e0 : (cs ++ [(b, i)]).map caseD = cs.map caseD ++ [.tup [Sts b, .int i]] := by rw [List.map_append]; rfl
  obtain ⟨n, hn⟩ := g _ (some (Sts b)) (some (.int i)) x6 (by rw [e0]; exact mm.pop.case (.tup [Sts b, .int i]))
  refine ⟨n + 1, (by decide : (0 : Nat) ≤ 16777216), ne_go mm.hw ?_⟩
  have e : (!(R ++ [b]).isEmpty) = true := by cases R <;> rfl
  rw [e]
  conv => whnf
  rw [mm.hw, List.map_append]
  refine popD_go ?_
  refine ⟨rfl, ps, b, ok, hb, hl, rfl, ?_⟩
  rw [hc]
  conv => whnf
  rw [mm.pop.hc]
  refine ⟨(by decide : (2 : Nat) ≤ 16777216), ?_⟩
  conv => whnf
  rw [mm.pop.hc]
  exact ⟨by rw [List.length_map]; omega, hn⟩
/-- all begun, no clash -/
theorem go_free (ok : PsOk ps) {R : List (List Int)} {b : List Int} {cs : List (List Int × Nat)} (hb : b ≠ []) (hl : b.length = ps.length) (hc : clashAt ps b = none) (hrt : ∀ N, Kept M0 N → E.rt (.tup [.str "starts", Sts b]) N) : Go E ps M0 z c w (R ++ [b]) cs := by
  intro N x4 x5 x6 mm
  refine ⟨1, (by decide : (0 : Nat) ≤ 16777216), ne_go mm.hw ?_⟩
  have e : (!(R ++ [b]).isEmpty) = true := by cases R <;> rfl
  rw [e]
  conv => whnf
  rw [mm.hw, List.map_append]
  refine popD_go ?_
  refine ⟨rfl, ps, b, ok, hb, by omega, rfl, ?_⟩
  rw [hc]
  refine ⟨shaped_int _, shaped_int _, ?_⟩
  refine iteT (c := PyData.eqv (.int ((b.map D.int).length : Int)) (.int ((ps.map Pair).length : Int)) = true) (by rw [eqv_int]; simp [hl]) ?_
  exact ⟨(by decide : (2 : Nat) ≤ 16777216), hrt _ mm.pop.kept⟩
/-- one goes on -/
theorem go_on (ok : PsOk ps) {R : List (List Int)} {b : List Int} {cs : List (List Int × Nat)} {f : Int} (hb : b ≠ []) (hl : b.length < ps.length) (hc : clashAt ps b = none) (hf : (frs ps 0 ps)[b.length]? = some f) (f0 : 0 ≤ f) (f1 : f ≤ 20000) (hR : R.length ≤ 1000000)
    (g : Go E ps M0 z c w (R ++ (kidsL b 0 f.toNat).reverse) cs) : Go E ps M0 z c w (R ++ [b]) cs := by
  intro N x4 x5 x6 mm
  have h5 := ok.2.1
  obtain ⟨n, hn⟩ := g _ (some (Sts b)) (some .non) x6 ((mm.pop.more (.lst (((kidsL b 0 f.toNat).map Sts).reverse))).push (kidsL b 0 f.toNat).reverse)
  refine ⟨n + 1, (by decide : (0 : Nat) ≤ 16777216), ne_go mm.hw ?_⟩
  have e : (!(R ++ [b]).isEmpty) = true := by cases R <;> rfl
  rw [e]
  conv => whnf
  rw [mm.hw, List.map_append]
  refine popD_go ?_
  refine ⟨rfl, ps, b, ok, hb, by omega, rfl, ?_⟩
  rw [hc]
  refine ⟨shaped_int _, shaped_int _, ?_⟩
  refine iteF (c := PyData.eqv (.int ((b.map D.int).length : Int)) (.int ((ps.map Pair).length : Int)) = true) (by rw [eqv_int]; simp; omega) ?_
  conv => whnf
  rw [mm.pop.hw]
  have bl : ((b.map D.int).length : Int) = ((b.length : Nat) : Int) := by rw [List.length_map]
  refine idxD_of (seqD_ref mm.pop.hz) (show L2.atI ((frs ps 0 ps).map D.int) ((b.map D.int).length : Int) = some (.int f) from by rw [bl]; exact atI_get (by rw [List.getElem?_map, hf]; rfl)) ?_
  refine ⟨⟨by omega, by omega⟩, ?_⟩
  refine comp_map (stay := fun _ => True) trivial (kidD b) (rngL 0 f.toNat) [] (fun x hx => ?_) (by rw [rngL_length]; simp; omega) ?_
  · obtain ⟨o, rfl, o0, o1⟩ := mem_rngL hx
    exact ⟨_, rfl, fun R X hR => ⟨by simp; omega, hR⟩⟩
  · rw [List.nil_append, kids_map]
    conv => whnf
    rw [(mm.pop.more _).hw]
    conv => whnf
    rw [last_get]
    refine ⟨by unfold kidsL; simp; omega, ?_⟩
    rw [List.map_reverse] at hn
    exact hn
theorem go_node (ok : TryOk ps) (hrt : ∀ ss N, Begun ps ss → ss.length = ps.length → NoBar zC (ps.zip ss) → Kept M0 N → E.rt (.tup [.str "starts", Sts ss]) N) :
    ∀ (k : Nat) (R : List (List Int)) (b : List Int) (cs : List (List Int × Nat)), b.length + k = ps.length → b ≠ [] → Begun ps b → NoBar zC (ps.zip b.dropLast) → R.length + 20000 * k ≤ 200000 → cs.length + (leaves ps k b).length ≤ 1000000 →
      ((∀ ss, Begun ps ss → ss.length = ps.length → ss.take b.length = b → ¬ NoBar zC (ps.zip ss)) → Go E ps M0 z c w R (cs ++ leaves ps k b)) → Go E ps M0 z c w (R ++ [b]) cs := by
  have fl : (frs ps 0 ps).length = ps.length := frs_len ps ps 0
  intro k
  induction k with
  | zero =>
    intro R b cs hk hb hB nb hR hm g
    cases hc : clashAt ps b with
    | some i =>
      rw [leaves_some hc] at g hm
      exact go_case ok.1 hb (by omega) hc (by omega) (g fun ss _ _ ht => bar_of (by omega) hc ht)
    | none => exact go_free ok.1 hb (by omega) hc fun N kp => hrt b N hB (by omega) (free_of (by omega) hc nb) kp
  | succ k ih =>
    intro R b cs hk hb hB nb hR hm g
    have lt : b.length < (frs ps 0 ps).length := by omega
    have lp : 0 < b.length := List.length_pos_iff.mpr hb
    obtain ⟨f, hf⟩ : ∃ f, (frs ps 0 ps)[b.length]? = some f := ⟨_, List.getElem?_eq_getElem lt⟩
    have fm : f ∈ (frs ps 0 ps).tail := by
      rw [List.mem_iff_getElem?]
      exact ⟨b.length - 1, by rw [List.getElem?_tail, show b.length - 1 + 1 = b.length by omega]; exact hf⟩
    have fr := frs_rng ok.1
    have f1 := (fr f (List.mem_of_mem_tail fm)).1
    have f2 : f ≤ 20000 := Int.le_trans (mem_prod (fun g hg => (fr g (List.mem_of_mem_tail hg)).1) fm) ok.2
    cases hc : clashAt ps b with
    | some i =>
      rw [leaves_some hc] at g hm
      exact go_case ok.1 hb (by omega) hc (by omega) (g fun ss _ _ ht => bar_of (by omega) hc ht)
    | none =>
      have hs : szN ps b = f.toNat := by unfold szN; rw [hf]; rfl
      rw [leaves_on hc, hs] at g hm
      refine go_on ok.1 hb (by omega) hc hf (by omega) f2 (by omega) ?_
      have free := free_of (ps := ps) (by omega) hc nb
      have kids : ∀ (n lo : Nat) (cs' : List (List Int × Nat)), lo + n = f.toNat → cs' ++ (kidsL b lo n).flatMap (leaves ps k) = cs ++ (kidsL b 0 f.toNat).flatMap (leaves ps k) →
          (∀ s : Int, 0 ≤ s → s < lo → ∀ ss, Begun ps ss → ss.length = ps.length → ss.take (b.length + 1) = b ++ [s] → ¬ NoBar zC (ps.zip ss)) → Go E ps M0 z c w (R ++ (kidsL b lo n).reverse) cs' := by
        intro n
        induction n with
        | zero =>
          intro lo cs' hlo hcs hno
          have e : (kidsL b lo 0).reverse = [] := rfl
          have e2 : (kidsL b lo 0).flatMap (leaves ps k) = [] := rfl
          rw [e2, List.append_nil] at hcs
          rw [e, List.append_nil, hcs]
          refine g fun ss hB' hl' ht => ?_
          have hbl : b.length < ss.length := by omega
          have ts := take_snoc ht hbl
          obtain ⟨s0, s1⟩ := hB'.2.2 b.length ss[b.length] f (List.getElem?_eq_getElem hbl) hf
          exact hno _ s0 (by omega) ss hB' hl' ts
        | succ n ih2 =>
          intro lo cs' hlo hcs hno
          have hcl := congrArg List.length hcs
          rw [kidsL_succ, List.flatMap_cons] at hcs hcl
          rw [kidsL_succ, List.reverse_cons, ← List.append_assoc]
          have lb : (b ++ [(lo : Int)]).length = b.length + 1 := by simp
          refine ih (R ++ (kidsL b (lo + 1) n).reverse) (b ++ [(lo : Int)]) cs' (by rw [lb]; omega) (by simp) (begun_snoc hB hb (by omega) hf (by omega) (by omega)) (by rw [List.dropLast_concat]; exact free) ?_ ?_ ?_
          · have : (kidsL b (lo + 1) n).reverse.length = n := by unfold kidsL; simp
            rw [List.length_append, this]
            omega
          · simp only [List.length_append] at hcl hm
            omega
          · intro no
            rw [lb] at no
            refine ih2 (lo + 1) _ (by omega) (by rw [List.append_assoc]; exact hcs) fun s s0 s1 ss hB' hl' ht => ?_
            by_cases e : s = lo
            · subst e
              exact no ss hB' hl' ht
            · exact hno s s0 (by omega) ss hB' hl' ht
      exact kids f.toNat 0 cs (by omega) rfl fun s s0 s1 => by omega
end
theorem nodes_le2 {ps : List (Int × Int)} (ok : TryOk ps) : nodes (frs ps 0 ps).tail ≤ 100000 := by
  have h5 := ok.1.2.1
  have fr := frs_rng ok.1
  have fl : (frs ps 0 ps).length = ps.length := frs_len ps ps 0
  have a := nodes_le (fs := (frs ps 0 ps).tail) fun f hf => (fr f (List.mem_of_mem_tail hf)).1
  have b := ok.2
  unfold ways at b
  have l4 : (((frs ps 0 ps).tail.length : Int) + 1) ≤ 5 := by rw [List.length_tail]; have := List.length_pos_iff.mpr ok.1.1; omega
  have p := prod_pos (fs := (frs ps 0 ps).tail) fun f hf => (fr f (List.mem_of_mem_tail hf)).1
  have : ((((frs ps 0 ps).tail.length : Int)) + 1) * prodZ (frs ps 0 ps).tail ≤ 5 * 20000 := Int.mul_le_mul l4 b (by omega) (by decide)
  omega
theorem cases_len {ps : List (Int × Int)} (ok : TryOk ps) : (casesL ps).length ≤ 100000 := by
  have lp : 0 < ps.length := List.length_pos_iff.mpr ok.1.1
  have h := leaves_len (frs_len ps ps 0) (ps.length - 1) [0] (by simp; omega)
  rw [show ([0] : List Int).length = 1 from rfl, List.drop_one] at h
  exact Nat.le_trans h (nodes_le2 ok)
theorem begun_0 {ps : List (Int × Int)} (ok : PsOk ps) : Begun ps [0] := by
  have lp : 0 < ps.length := List.length_pos_iff.mpr ok.1
  refine ⟨by simp; omega, fun s hs => by cases hs; rfl, fun i s f hs hf => ?_⟩
  have : i < ([0] : List Int).length := (List.getElem?_eq_some_iff.mp hs).1
  have e : i = 0 := by simp at this; omega
  subst e
  cases hs
  have := (frs_rng ok f (List.mem_of_getElem? hf)).1
  omega
theorem take_1 {ps : List (Int × Int)} {ss : List Int} (ok : PsOk ps) (hB : Begun ps ss) (hl : ss.length = ps.length) : ss.take ([0] : List Int).length = [0] := by
  have lp : 0 < ps.length := List.length_pos_iff.mpr ok.1
  have hs : 0 < ss.length := by omega
  have := hB.2.1 ss[0] (List.getElem?_eq_getElem hs)
  rw [show ([0] : List Int).length = 0 + 1 from rfl, List.take_add_one, List.take_zero, List.getElem?_eq_getElem hs, this]
  rfl
theorem okplacing : ∀ ds M Q X, ds.length = Fplacing.par.length → Fplacing.sp ds M Q X → wpSs (tab T15) Bplacing (dEnds Q X) (dstart Nplacing ds) M := by
  intro ds M Q X hl h
  obtain ⟨ps, ok, rfl, h1, hx⟩ := h
  refine ⟨rfl, ps, ok, rfl, fun hw M1 k1 => ?_, fun hw M1 k1 => hx hw M1 k1⟩
  have tok : TryOk ps := ⟨ok, hw⟩
  have h1 := h1 hw
  have lp : 0 < ps.length := List.length_pos_iff.mpr ok.1
  have h5 := ok.2.1
  have fl : (frs ps 0 ps).length = ps.length := frs_len ps ps 0
  refine ⟨rfl, ps, ok, rfl, (by decide : (0 : Nat) ≤ 16777216), (by decide : (1 : Nat) ≤ 16777216), (by decide : (1 : Nat) ≤ 16777216), ?_⟩
  have mm : Mm ps M (M1 ++ [.lst ((frs ps 0 ps).map D.int)] ++ [.lst []] ++ [.lst [.tup [.int 0]]]) M1.length (M1 ++ [MO.lst ((frs ps 0 ps).map D.int)]).length (M1 ++ [MO.lst ((frs ps 0 ps).map D.int)] ++ [MO.lst []]).length ([] ++ [[0]]) (([] : List (List Int × Nat)).map caseD) :=
    ⟨((k1.snoc _).snoc _).snoc _, by rw [List.getElem?_append_left (by first | (simp; done) | (simp; omega)), List.getElem?_append_left (by simp), last_get], by rw [List.getElem?_append_left (by simp), last_get]; rfl, last_get _ _, k1.len, by have := k1.len; simp; omega, by have := k1.len; simp; omega, by simp, by first | (simp; done) | (simp; omega), by simp⟩
  have cl := cases_len tok
  refine go_node (E := _) tok ?_ (ps.length - 1) [] [0] [] (by simp; omega) (by simp) (begun_0 ok) (fun i j x y hij hi => by simp at hi) (by simp; omega) (by unfold casesL at cl; simp; omega) ?_ _ none none none mm
  · exact fun ss N hB hl' nb kp => h1 _ N (.inl ⟨ss, hB, hl', nb, rfl⟩) kp
  · intro no N x4 x5 x6 m2
    refine ⟨1, (by decide : (0 : Nat) ≤ 16777216), ne_go (bs := []) m2.hw ?_⟩
    conv => whnf
    rw [m2.hc]
    refine ⟨(by decide : (2 : Nat) ≤ 16777216), ?_⟩
    exact h1 _ N (.inr ⟨fun ss hB hl' => no ss hB hl' (take_1 ok hB hl'), rfl⟩) m2.kept
end K45
set_option pp.deepTerms false
set_option pp.maxSteps 300
namespace K45
open PySem PySem.Spec AA
open L2 (FnScope defScope defBody)
open K10 (gcd_pos' gcd_turn lcm_eq dvd_of_mod pow_small)
open K41 (PieceOk At Both IsFirst Clash clash_iff both_min first_at at_cong First NoBar frS frA frs frS_le frA_le no_clash_room first_lap first_lt mod_le_of)
/-! ### a case -/
theorem map_true (xs : List D) : xs.map (fun _ => D.bl true) = List.replicate xs.length (.bl true) := by
  induction xs with
  | nil => rfl
  | cons x xs ih => rw [List.map_cons, ih, List.length_cons, List.replicate_succ]
theorem mem_zipI {ss fs : List Int} {x : D} (h : x ∈ zipL (ss.map D.int) (fs.map D.int)) : ∃ (i : Nat) (s f : Int), ss[i]? = some s ∧ fs[i]? = some f ∧ x = .tup [.int s, .int f] := by
  unfold zipL at h
  obtain ⟨⟨d, e⟩, hp, rfl⟩ := List.mem_map.mp h
  obtain ⟨i, hi, e1⟩ := List.getElem_of_mem hp
  have e2 : ((ss.map D.int).zip (fs.map D.int))[i]? = some (d, e) := by rw [List.getElem?_eq_getElem hi, e1]
  obtain ⟨h1, h2⟩ := List.getElem?_zip_eq_some.mp e2
  rw [List.getElem?_map] at h1 h2
  obtain ⟨s, hs, rfl⟩ := Option.map_eq_some_iff.mp h1
  obtain ⟨f, hf, rfl⟩ := Option.map_eq_some_iff.mp h2
  exact ⟨i, s, f, hs, hf, rfl⟩
theorem okis_case : ∀ ds M Q X, ds.length = Fis_case.par.length → Fis_case.sp ds M Q X → wpSs (tab T16) Bis_case (dEnds Q X) (dstart Nis_case ds) M := by
  intro ds M Q X hl h
  obtain ⟨ps, b, i, z, ok, hB, hc, hz, rfl, h⟩ := h
  obtain ⟨hi, x, y, e1, e2, c⟩ := clash_some hB.1 hc
  have h5 := ok.2.1
  have hbl := hB.1
  have bl : ((b.map D.int).length : Int) = ((b.length : Nat) : Int) := by rw [List.length_map]
  have pl : ((ps.map Pair).length : Int) = ((ps.length : Nat) : Int) := by rw [List.length_map]
  refine ⟨shaped_int _, shaped_int _, ?_⟩
  refine iteF (c := (!PyData.eqv (.int 2) (.int 2)) = true) (ne_int' rfl) ?_
  refine iteT (c := decide ((1 : Int) < ((b.map D.int).length : Int)) = true) (by rw [bl]; exact decide_eq_true (by omega)) ?_
  refine iteF (c := (!decide (((b.map D.int).length : Int) ≤ ((ps.map Pair).length : Int))) = true) (by rw [bl, pl, decide_eq_true (by omega)]; decide) ?_
  refine ⟨rfl, _, _, _, rfl, ?_⟩
  refine iteF (c := (!decide ((0 : Int) ≤ (i : Int) ∧ (i : Int) ≤ ((b.map D.int).length : Int) - 2)) = true) (by rw [bl, decide_eq_true (by omega)]; decide) ?_
  have z1 : seqD M (.ref z) = some ((frs ps 0 ps).map D.int) := seqD_ref hz
  conv => whnf
  rw [z1]
  refine ⟨fun _ => rfl, ?_⟩
  refine comp_map (stay := fun M => stayD (Sts b) (b.map D.int) M ∧ stayD (.ref z) ((frs ps 0 ps).map D.int) M) ⟨rfl, z1⟩ (fun _ => .bl true) (zipL (b.map D.int) ((frs ps 0 ps).map D.int)) [] (fun d hd => ?_) (by rw [zipL_length, List.length_map]; simp; omega) ?_
  · obtain ⟨j, s, f, hs, hf, rfl⟩ := mem_zipI hd
    have := hB.2.2 j s f hs hf
    refine ⟨_, rfl, fun R X' hR => ⟨rfl, _, _, _, rfl, ?_⟩⟩
    show R (D.bl (decide (0 ≤ s ∧ s ≤ f - 1))) M
    rw [decide_eq_true (show 0 ≤ s ∧ s ≤ f - 1 by omega)]
    exact hR
  · rw [List.nil_append, map_true]
    conv => whnf
    rw [blsD_rep]
    refine iteF (c := (!(List.replicate (zipL (b.map D.int) ((frs ps 0 ps).map D.int)).length true).all id) = true) (by rw [all_rep]; decide) ?_
    have b0 : b[0]? = some 0 := by
      have hp : 0 < b.length := by omega
      have := hB.2.1 b[0] (List.getElem?_eq_getElem hp)
      rw [List.getElem?_eq_getElem hp, this]
    refine idxD_of (M := M) (x := Sts b) rfl (show L2.atI (b.map D.int) ((0 : Nat) : Int) = some (.int 0) from atI_get (by rw [List.getElem?_map, b0]; rfl)) ?_
    refine ⟨shaped_int _, shaped_int _, ?_⟩
    refine iteF (c := (!PyData.eqv (.int 0) (.int 0)) = true) (ne_int' rfl) ?_
    obtain ⟨p1, s1⟩ := List.getElem?_zip_eq_some.mp e1
    obtain ⟨p2, s2⟩ := List.getElem?_zip_eq_some.mp e2
    have la : ((b.map D.int).length : Int) - 1 = ((b.length - 1 : Nat) : Int) := by rw [bl]; omega
    refine idxD_of (M := M) (x := Pcs ps) rfl (show L2.atI (ps.map Pair) (i : Int) = some (Pair x.1) from atI_get (by rw [List.getElem?_map, p1]; rfl)) ?_
    refine idxD_of (M := M) (x := Sts b) rfl (show L2.atI (b.map D.int) (i : Int) = some (.int x.2) from atI_get (by rw [List.getElem?_map, s1]; rfl)) ?_
    refine idxD_of (M := M) (x := Pcs ps) rfl (show L2.atI (ps.map Pair) (((b.map D.int).length : Int) - 1) = some (Pair y.1) from by rw [la]; exact atI_get (by rw [List.getElem?_map, p2]; rfl)) ?_
    refine idxD_of (M := M) (x := Sts b) rfl (show L2.atI (b.map D.int) (((b.map D.int).length : Int) - 1) = some (.int y.2) from by rw [la]; exact atI_get (by rw [List.getElem?_map, s2]; rfl)) ?_
    exact ⟨rfl, _, _, _, _, ok.2.2 _ (List.mem_of_getElem? p1), ok.2.2 _ (List.mem_of_getElem? p2), rfl, fun _ => h, fun hc => absurd c hc⟩
end K45
set_option pp.deepTerms false
set_option pp.maxSteps 300
namespace K45
open PySem PySem.Spec AA
open L2 (FnScope defScope defBody)
open K10 (gcd_pos' gcd_turn lcm_eq dvd_of_mod pow_small)
open K41 (PieceOk At Both IsFirst Clash clash_iff both_min first_at at_cong First NoBar frS frA frs frS_le frA_le no_clash_room first_lap first_lt mod_le_of)
/-! ### all cases -/
noncomputable def acB : Ss := match Bare_cases with | .cons _ (.cons _ (.cons _ (.cons _ (.cons _ (.cons (.while_ _ b) _))))) => b | _ => .nil
noncomputable def acC : E := .cmp .ne (.var 7) (.lst false .nil)
structure Mc (ps : List (Int × Int)) (M0 N : Mem) (z w : Nat) (R : List (List Int)) : Prop where
  kept : Kept M0 N
  hz : N[z]? = some (.lst ((frs ps 0 ps).map D.int))
  hw : N[w]? = some (.lst (R.map Sts))
  nw : M0.length ≤ w
  zw : z ≠ w
section
variable {ps : List (Int × Int)} {M0 N : Mem} {z w : Nat} {R : List (List Int)} {b : List Int}
theorem Mc.pop (h : Mc ps M0 N z w (R ++ [b])) : Mc ps M0 (N.set w (.lst (R.map Sts))) z w R :=
  ⟨h.kept.set h.nw _, by rw [List.getElem?_set_ne (Ne.symm h.zw)]; exact h.hz, List.getElem?_set_self (List.getElem?_eq_some_iff.mp h.hw).1, h.nw, h.zw⟩
theorem Mc.more (h : Mc ps M0 N z w R) (a : MO) : Mc ps M0 (N ++ [a]) z w R := by
  have g : ∀ {k : Nat} {o : MO}, N[k]? = some o → (N ++ [a])[k]? = some o := fun e => by rw [List.getElem?_append_left (List.getElem?_eq_some_iff.mp e).1]; exact e
  exact ⟨h.kept.snoc _, g h.hz, g h.hw, h.nw, h.zw⟩
theorem Mc.push (h : Mc ps M0 N z w R) (K : List (List Int)) : Mc ps M0 (N.set w (.lst (R.map Sts ++ K.map Sts))) z w (R ++ K) :=
  ⟨h.kept.set h.nw _, by rw [List.getElem?_set_ne (Ne.symm h.zw)]; exact h.hz, by rw [List.getElem?_set_self (List.getElem?_eq_some_iff.mp h.hw).1, List.map_append], h.nw, h.zw⟩
end
/-- the keys -/
noncomputable def keysL (ps : List (Int × Int)) : List (List Int) := (casesL ps).map (·.1)
noncomputable def casesD (ps : List (Int × Int)) : D := .tup ((casesL ps).map caseD)
noncomputable def acD (ps : List (Int × Int)) (z w : Nat) (seen : Nat) (x5 x9 : Option D) : Dst := [some (Pcs ps), some (casesD ps), some (.ref z), none, some (.dts (keysL ps)), x5, none, some (.ref w), some (.int (seen : Nat)), x9]
noncomputable def Gc (E : DE) (ps : List (Int × Int)) (M0 : Mem) (z w : Nat) (R : List (List Int)) (seen : Nat) : Prop :=
  ∀ N x5 x9, Mc ps M0 N z w R → ∃ n, whileN (wpT (tab T17) acC) (wpSs (tab T17) acB) E n (acD ps z w seen x5 x9) N
section
variable {E : DE} {ps : List (Int × Int)} {M0 : Mem} {z w : Nat}
theorem gc_case {R : List (List Int)} {b : List Int} {seen : Nat} (hb : b ∈ keysL ps) (g : Gc E ps M0 z w R (seen + 1)) : Gc E ps M0 z w (R ++ [b]) seen := by
  intro N x5 x9 mm
  obtain ⟨n, hn⟩ := g _ (some (Sts b)) x9 mm.pop
  refine ⟨n + 1, (by decide : (0 : Nat) ≤ 16777216), ne_go mm.hw ?_⟩
  have e : (!(R ++ [b]).isEmpty) = true := by cases R <;> rfl
  rw [e]
  conv => whnf
  rw [mm.hw, List.map_append]
  refine popD_go ?_
  conv => whnf
  rw [intsD_map]
  refine iteT (c := decide (b ∈ keysL ps) = true) (decide_eq_true hb) ?_
  exact hn
theorem gc_on (ok : PsOk ps) {R : List (List Int)} {b : List Int} {seen : Nat} {f : Int} (hk : b ∉ keysL ps) (hl : b.length < ps.length) (hf : (frs ps 0 ps)[b.length]? = some f) (f0 : 0 ≤ f) (f1 : f ≤ 20000) (hR : R.length ≤ 1000000)
    (g : Gc E ps M0 z w (R ++ kidsL b 0 f.toNat) seen) : Gc E ps M0 z w (R ++ [b]) seen := by
  intro N x5 x9 mm
  have h5 := ok.2.1
  obtain ⟨n, hn⟩ := g _ (some (Sts b)) x9 ((mm.pop.more (.lst ((kidsL b 0 f.toNat).map Sts))).push (kidsL b 0 f.toNat))
  refine ⟨n + 1, (by decide : (0 : Nat) ≤ 16777216), ne_go mm.hw ?_⟩
  have e : (!(R ++ [b]).isEmpty) = true := by cases R <;> rfl
  rw [e]
  conv => whnf
  rw [mm.hw, List.map_append]
  refine popD_go ?_
  conv => whnf
  rw [intsD_map]
  refine iteF (c := decide (b ∈ keysL ps) = true) (by rw [decide_eq_false hk]; decide) ?_
  refine ⟨shaped_int _, shaped_int _, ?_⟩
  refine iteF (c := PyData.eqv (.int ((b.map D.int).length : Int)) (.int ((ps.map Pair).length : Int)) = true) (by rw [eqv_int]; simp; omega) ?_
  conv => whnf
  rw [mm.pop.hw]
  have bl : ((b.map D.int).length : Int) = ((b.length : Nat) : Int) := by rw [List.length_map]
  refine idxD_of (seqD_ref mm.pop.hz) (show L2.atI ((frs ps 0 ps).map D.int) ((b.map D.int).length : Int) = some (.int f) from by rw [bl]; exact atI_get (by rw [List.getElem?_map, hf]; rfl)) ?_
  refine ⟨⟨by omega, by omega⟩, ?_⟩
  refine comp_map (stay := fun _ => True) trivial (kidD b) (rngL 0 f.toNat) [] (fun x hx => ?_) (by rw [rngL_length]; simp; omega) ?_
  · obtain ⟨o, rfl, o0, o1⟩ := mem_rngL hx
    exact ⟨_, rfl, fun R X hR => ⟨by simp; omega, hR⟩⟩
  · rw [List.nil_append, kids_map]
    conv => whnf
    rw [(mm.pop.more _).hw]
    conv => whnf
    rw [last_get]
    exact ⟨by unfold kidsL; simp; omega, hn⟩
theorem gc_node (ok : TryOk ps) (nf : NoFree ps) :
    ∀ (k : Nat) (R : List (List Int)) (b : List Int) (seen : Nat), b.length + k = ps.length → b ≠ [] → Begun ps b → NoBar zC (ps.zip b.dropLast) → R.length + 20000 * k ≤ 200000 → (∀ c ∈ leaves ps k b, c ∈ casesL ps) →
      Gc E ps M0 z w R (seen + (leaves ps k b).length) → Gc E ps M0 z w (R ++ [b]) seen := by
  have fl : (frs ps 0 ps).length = ps.length := frs_len ps ps 0
  have isK : ∀ {b : List Int} {i : Nat}, (b, i) ∈ casesL ps → b ∈ keysL ps := fun h => List.mem_map.mpr ⟨_, h, rfl⟩
  have noK : ∀ {b : List Int}, clashAt ps b = none → b ∉ keysL ps := fun hc h => by
    obtain ⟨⟨c, i⟩, hm, e⟩ := List.mem_map.mp h
    cases e
    have := (leaf_at _ _ hm).1
    rw [hc] at this
    cases this
  intro k
  induction k with
  | zero =>
    intro R b seen hk hb hB nb hR hsub g
    cases hc : clashAt ps b with
    | some i =>
      rw [leaves_some hc] at g hsub
      exact gc_case (isK (hsub _ List.mem_cons_self)) g
    | none => exact absurd (free_of (by omega) hc nb) (nf b hB (by omega))
  | succ k ih =>
    intro R b seen hk hb hB nb hR hsub g
    have lt : b.length < (frs ps 0 ps).length := by omega
    have lp : 0 < b.length := List.length_pos_iff.mpr hb
    obtain ⟨f, hf⟩ : ∃ f, (frs ps 0 ps)[b.length]? = some f := ⟨_, List.getElem?_eq_getElem lt⟩
    have fm : f ∈ (frs ps 0 ps).tail := by
      rw [List.mem_iff_getElem?]
      exact ⟨b.length - 1, by rw [List.getElem?_tail, show b.length - 1 + 1 = b.length by omega]; exact hf⟩
    have fr := frs_rng ok.1
    have f1 := (fr f (List.mem_of_mem_tail fm)).1
    have f2 : f ≤ 20000 := Int.le_trans (mem_prod (fun g hg => (fr g (List.mem_of_mem_tail hg)).1) fm) ok.2
    cases hc : clashAt ps b with
    | some i =>
      rw [leaves_some hc] at g hsub
      exact gc_case (isK (hsub _ List.mem_cons_self)) g
    | none =>
      have hs : szN ps b = f.toNat := by unfold szN; rw [hf]; rfl
      rw [leaves_on hc, hs] at g hsub
      refine gc_on ok.1 (noK hc) (by omega) hf (by omega) f2 (by omega) ?_
      have free := free_of (ps := ps) (by omega) hc nb
      have kids : ∀ (n : Nat) (s : Nat), n ≤ f.toNat → Gc E ps M0 z w R (s + ((kidsL b 0 n).flatMap (leaves ps k)).length) → Gc E ps M0 z w (R ++ kidsL b 0 n) s := by
        intro n
        induction n with
        | zero =>
          intro s hn g
          have e : kidsL b 0 0 = [] := rfl
          rw [e] at g ⊢
          rw [List.append_nil]
          exact g
        | succ n ih2 =>
          intro s hn g
          have lk : (kidsL b 0 n).length = n := by unfold kidsL; simp
          have lb : (b ++ [((0 + n : Nat) : Int)]).length = b.length + 1 := by simp
          rw [kidsL_snoc] at g ⊢
          rw [← List.append_assoc]
          refine ih (R ++ kidsL b 0 n) _ s (by rw [lb]; omega) (by simp) (begun_snoc hB hb (by omega) hf (by omega) (by omega)) (by rw [List.dropLast_concat]; exact free) (by rw [List.length_append, lk]; omega) (fun c hc' => hsub c (List.mem_flatMap.mpr ⟨_, mem_kids.mpr ⟨n, by omega, rfl⟩, hc'⟩)) ?_
          refine ih2 _ (by omega) ?_
          rw [List.flatMap_append, List.length_append, List.flatMap_singleton] at g
          rw [show s + (leaves ps k (b ++ [((0 + n : Nat) : Int)])).length + ((kidsL b 0 n).flatMap (leaves ps k)).length = s + (((kidsL b 0 n).flatMap (leaves ps k)).length + (leaves ps k (b ++ [((0 + n : Nat) : Int)])).length) by omega]
          exact g
      exact kids f.toNat seen (Nat.le_refl _) g
end
theorem pairKs_map : ∀ cs : List (List Int × Nat), pairKs (cs.map fun c => .tup [Sts c.1, .bl true]) = some (cs.map (·.1))
  | [] => rfl
  | c :: cs => by
    have ih := pairKs_map cs
    have e : intsD (c.1.map D.int) = some c.1 := intsD_map _
    rw [List.map_cons, List.map_cons]
    unfold pairKs
    rw [ih]
    show (match intsD (c.1.map D.int) with | some ns => some (ns :: cs.map fun x : List Int × Nat => x.1) | none => none) = _
    rw [e]
theorem onceK_nodup : ∀ (ks acc : List (List Int)), (acc ++ ks).Nodup → onceK acc ks = acc ++ ks
  | [], acc, _ => (List.append_nil _).symm
  | k :: ks, acc, h => by
    have hk : k ∉ acc := fun z => by
      have := List.nodup_append.mp h
      exact this.2.2 k z k List.mem_cons_self rfl
    show onceK (if k ∈ acc then acc else acc ++ [k]) ks = _
    rw [if_neg hk, onceK_nodup ks (acc ++ [k]) (by rw [List.append_assoc]; exact h), List.append_assoc]
    rfl
noncomputable def rowF (d : D) : D := match d with
  | .tup [b, _] => .tup [b, .bl true]
  | d => d
theorem row_map (cs : List (List Int × Nat)) : (cs.map caseD).map rowF = cs.map fun c => .tup [Sts c.1, .bl true] := by
  rw [List.map_map]
  rfl
theorem okare_cases : ∀ ds M Q X, ds.length = Fare_cases.par.length → Fare_cases.sp ds M Q X → wpSs (tab T17) Bare_cases (dEnds Q X) (dstart Nare_cases ds) M := by
  intro ds M Q X hl h
  obtain ⟨ps, ok, nf, rfl, h⟩ := h
  have lp : 0 < ps.length := List.length_pos_iff.mpr ok.1.1
  have cl := cases_len ok
  have h5 := ok.1.2.1
  have hz : (M ++ [MO.lst ((frs ps 0 ps).map D.int)])[M.length]? = some (.lst ((frs ps 0 ps).map D.int)) := last_get _ _
  refine ⟨rfl, ps, ok.1, rfl, ?_⟩
  conv => whnf
  refine AA.comp_map (stay := stayD (casesD ps) ((casesL ps).map caseD)) rfl (fun _ => .bl true) ((casesL ps).map caseD) [] (fun d hd => ?_) (by simp; omega) ?_
  · obtain ⟨⟨b, i⟩, hm, rfl⟩ := List.mem_map.mp hd
    refine ⟨_, rfl, fun R X' hR => ⟨rfl, ps, b, i, M.length, ok.1, ?_, (leaf_at _ _ hm).1, hz, rfl, hR⟩⟩
    exact leaf_begun (ps.length - 1) [0] (by simp) (by simp; omega) (begun_0 ok.1) (frs_len ps ps 0) hm
  · rw [List.nil_append, map_true]
    conv => whnf
    rw [blsD_rep]
    refine iteF (c := (!(List.replicate ((casesL ps).map caseD).length true).all id) = true) (by rw [all_rep]; decide) ?_
    refine AA.comp_map (stay := stayD (casesD ps) ((casesL ps).map caseD)) rfl rowF ((casesL ps).map caseD) [] (fun d hd => ?_) (by simp; omega) ?_
    · obtain ⟨⟨b, i⟩, hm, rfl⟩ := List.mem_map.mp hd
      exact ⟨_, rfl, fun R X' hR => ⟨(by decide : (2 : Nat) ≤ 16777216), hR⟩⟩
    · rw [List.nil_append, row_map]
      conv => whnf
      rw [pairKs_map]
      refine ⟨by rw [List.length_map]; omega, ?_⟩
      rw [onceK_nodup _ [] (by rw [List.nil_append]; exact leaf_keys _ _), List.nil_append]
      refine ⟨shaped_int _, shaped_int _, ?_⟩
      refine iteF (c := (!PyData.eqv (.int (((casesL ps).map (·.1)).length : Int)) (.int (((casesL ps).map caseD).length : Int))) = true) (ne_int' (by simp)) ?_
      refine ⟨(by decide : (1 : Nat) ≤ 16777216), (by decide : (1 : Nat) ≤ 16777216), ?_⟩
      have mm : Mc ps M (M ++ [.lst ((frs ps 0 ps).map D.int)] ++ [.lst [.tup [.int 0]]]) M.length (M ++ [MO.lst ((frs ps 0 ps).map D.int)]).length ([] ++ [[0]]) :=
        ⟨((Kept.refl M).snoc _).snoc _, by rw [List.getElem?_append_left (by simp), last_get], last_get _ _, by simp, by simp⟩
      refine gc_node (E := _) ok nf (ps.length - 1) [] [0] 0 (by simp; omega) (by simp) (begun_0 ok.1) (fun i j x y hij hi => by simp at hi) (by simp; omega) (fun c hc => hc) ?_ _ none none mm
      intro N x5 x9 m2
      refine ⟨1, (by decide : (0 : Nat) ≤ 16777216), ne_go (bs := []) m2.hw ?_⟩
      conv => whnf
      refine ⟨shaped_int _, shaped_int _, ?_⟩
      show Q (.bl (PyData.eqv (.int ((0 + (leaves ps (ps.length - 1) [0]).length : Nat) : Int)) (.int (((casesL ps).map caseD).length : Int)))) N
      rw [eqv_int, decide_eq_true (by rw [List.length_map, Nat.zero_add]; rfl)]
      exact h N m2.kept
end K45
set_option pp.deepTerms false
set_option pp.maxSteps 300
namespace K45
open PySem PySem.Spec AA
open L2 (FnScope defScope defBody)
open K10 (gcd_pos' gcd_turn lcm_eq dvd_of_mod pow_small)
open K41 (PieceOk At Both IsFirst Clash clash_iff both_min first_at at_cong First NoBar frS frA frs frS_le frA_le no_clash_room first_lap first_lt mod_le_of)
/-! ### starts -/
theorem unzip {ps : List (Int × Int)} {ss : List Int} (h : ss.length = ps.length) : ∃ zs : List ZZ, ps = zs.map (·.1) ∧ ss = zs.map (·.2) ∧ ps.zip ss = zs :=
  ⟨ps.zip ss, (List.map_fst_zip (by omega)).symm, (List.map_snd_zip (by omega)).symm, rfl⟩
theorem lcm_dvd2 {f g e : Int} (h1 : f ∣ e) (h2 : g ∣ e) : (Int.lcm f g : Int) ∣ e :=
  Int.ofNat_dvd_left.mpr (Nat.lcm_dvd (Int.natAbs_dvd_natAbs.mpr h1) (Int.natAbs_dvd_natAbs.mpr h2))
theorem frA_dvd {i : Nat} {e : Int} : ∀ (qs : List (Int × Int)) (j : Nat) (f : Int), f ∣ e → frA i e j qs f ∣ e
  | [], j, f, h => h
  | q :: qs, j, f, h => by
    refine frA_dvd qs (j + 1) _ ?_
    unfold frS
    split
    · exact h
    · exact lcm_dvd2 h (Int.gcd_dvd_left (a := e) (b := q.1))
theorem frs_get : ∀ (rest ps : List (Int × Int)) (k i : Nat) {f : Int} {p : Int × Int}, (frs ps k rest)[i]? = some f → rest[i]? = some p → f ∣ p.1
  | [], ps, k, i, f, p, h1, h2 => by simp at h2
  | q :: rest, ps, k, 0, f, p, h1, h2 => by
    simp [frs] at h1 h2
    subst h1 h2
    exact frA_dvd ps 0 1 (Int.one_dvd _)
  | q :: rest, ps, k, i + 1, f, p, h1, h2 => frs_get rest ps (k + 1) i (by simpa [frs] using h1) (by simpa using h2)
theorem frs_le_p {ps : List (Int × Int)} {i : Nat} {f : Int} {p : Int × Int} (hp : PieceOk p) (h1 : (frs ps 0 ps)[i]? = some f) (h2 : ps[i]? = some p) : f ≤ p.1 := Int.le_of_dvd (by have := hp.1; omega) (frs_get ps ps 0 i h1 h2)
theorem starts_z {ps : List (Int × Int)} {ss : List Int} (ok : PsOk ps) (hB : Begun ps ss) (hl : ss.length = ps.length) : ∃ zs, ZOk zs ∧ ps = zs.map (·.1) ∧ ss = zs.map (·.2) ∧ ps.zip ss = zs := by
  obtain ⟨zs, e1, e2, e3⟩ := unzip hl
  have lz : zs.length = ps.length := by rw [e1, List.length_map]
  refine ⟨zs, ⟨fun z => ok.1 (by rw [e1, z]; rfl), by rw [lz]; exact ok.2.1, fun z hz => ?_⟩, e1, e2, e3⟩
  obtain ⟨i, hi, ez⟩ := List.getElem_of_mem hz
  have h1 : ps[i]? = some z.1 := by rw [e1, List.getElem?_map, List.getElem?_eq_getElem hi, ez]; rfl
  have h2 : ss[i]? = some z.2 := by rw [e2, List.getElem?_map, List.getElem?_eq_getElem hi, ez]; rfl
  have hp := ok.2.2 _ (List.mem_of_getElem? h1)
  have hf : i < (frs ps 0 ps).length := by rw [frs_len]; omega
  have h3 := List.getElem?_eq_getElem hf
  have h4 := hB.2.2 i _ _ h2 h3
  have h5 := frs_le_p hp h3 h1
  exact ⟨hp, h4.1, by omega⟩
theorem clash_free {zs : List ZZ} (ok : ZOk zs) (nb : NoBar zC zs) {M : Mem} {Q : DK} {X : XD} (h : Q .non M) : Fclash.sp [Pcs (zs.map (·.1)), Sts (zs.map (·.2))] M Q X :=
  ⟨zs, ok, rfl, fun i j m M' hf _ => absurd hf.1 (fun z => z.bar nb), fun _ => h⟩
theorem okshows_placing : ∀ ds M Q X, ds.length = Fshows_placing.par.length → Fshows_placing.sp ds M Q X → wpSs (tab T18) Bshows_placing (dEnds Q X) (dstart Nshows_placing ds) M := by
  intro ds M Q X hl h
  obtain ⟨ps, d, ok, hd, rfl, h⟩ := h
  refine ⟨rfl, ps, ok.1, rfl, fun _ M1 k1 => ?_, fun hw => absurd ok.2 (by omega)⟩
  rcases hd with ⟨ss, hB, hls, nb, rfl⟩ | ⟨nf, rfl⟩
  · obtain ⟨zs, zok, e1, e2, e3⟩ := starts_z ok.1 hB hls
    rw [e3] at nb
    subst e1 e2
    refine ⟨shaped_int _, shaped_int _, ?_⟩
    refine iteF (c := (!PyData.eqv (.int 2) (.int 2)) = true) (ne_int' rfl) ?_
    refine ⟨rfl, zs, zok, rfl, ?_⟩
    refine ⟨rfl, clash_free zok nb ?_⟩
    exact h M1 k1
  · refine ⟨shaped_int _, shaped_int _, ?_⟩
    refine iteF (c := (!PyData.eqv (.int 2) (.int 2)) = true) (ne_int' rfl) ?_
    refine ⟨rfl, ps, ok, nf, rfl, fun M2 k2 => ?_⟩
    exact h M2 (k1.trans k2)
/-! ### some of a pool -/
theorem perm_erase {A : Type} {l : List A} {i : Nat} (h : i < l.length) : l.Perm (l[i] :: l.eraseIdx i) := by
  induction l generalizing i with
  | nil => simp at h
  | cons a l ih =>
    cases i with
    | zero => exact List.Perm.refl _
    | succ i =>
      have hi : i < l.length := by simpa using h
      have := ih hi
      show (a :: l).Perm (l[i] :: a :: l.eraseIdx i)
      exact (List.Perm.cons a this).trans (List.Perm.swap _ _ _)
theorem map_erase {A B : Type} (f : A → B) : ∀ (l : List A) (i : Nat), (l.map f).eraseIdx i = (l.eraseIdx i).map f
  | [], _ => rfl
  | a :: l, 0 => rfl
  | a :: l, i + 1 => by
    show f a :: (l.map f).eraseIdx i = f a :: (l.eraseIdx i).map f
    rw [map_erase f l i]
noncomputable def soB : Ss := match B_law_some with | .cons _ (.cons (.for_ _ _ b) _) => b | _ => .nil
theorem so_loop {E : DE} {n a b : Nat} {ss : List Int} {k0 : Nat} {C : Int} {x1 x2 : Option D} (hC : C < 1000000) (hab : a ≠ b) (an : n ≠ a) (bn : n ≠ b)
    (hE : ∀ M (ts : List Int) x5, ts.length = k0 → ts.Nodup → (∀ t ∈ ts, t ∈ ss) → Pot M n C → M[b]? = some (.lst (ts.map D.int)) → E.nx [some (.ref n), x1, x2, some (.ref a), some (.ref b), x5] M) :
    ∀ (k : Nat) (lo : Int) (ls ts : List Int) (M : Mem) (c : Int) (x5 : Option D), Pot M n c → c + k ≤ C → M[a]? = some (.lst (ls.map D.int)) → M[b]? = some (.lst (ts.map D.int)) → (ts ++ ls).Nodup → (∀ t ∈ ts, t ∈ ss) → (∀ t ∈ ls, t ∈ ss) → ts.length + k = k0 → k ≤ ls.length → ls.length ≤ 1000 → ts.length + ls.length ≤ 1000 →
    forD (bindT (.nm 5)) (wpSs (tab T22) soB) (fun _ => True) E (rngL lo k) [some (.ref n), x1, x2, some (.ref a), some (.ref b), x5] M
  | 0, lo, ls, ts, M, c, x5, P, hc, ha, hb, nd, h1, h2, e, _, _, _ => ⟨trivial, hE M ts x5 e (List.Nodup.sublist (List.sublist_append_left ts ls) nd) h1 (P.le (by omega)) hb⟩
  | k + 1, lo, ls, ts, M, c, x5, P, hc, ha, hb, nd, h1, h2, e, kl, l1, l2 => by
    rw [rngL_succ]
    refine ⟨trivial, ?_⟩
    conv => whnf
    rw [hb]
    conv => whnf
    rw [ha]
    conv => whnf
    rw [ha]
    refine ⟨rfl, ?_⟩
    rw [List.length_map]
    refine take_call P (by omega) (by omega) (by omega) fun d M1 d0 d1 D1 => ?_
    have ha1 : M1[a]? = some (.lst (ls.map D.int)) := by rw [D1.oth a (Ne.symm an)]; exact ha
    have hb1 : M1[b]? = some (.lst (ts.map D.int)) := by rw [D1.oth b (Ne.symm bn)]; exact hb
    conv => whnf
    rw [ha1]
    have dl : d.toNat < ls.length := by omega
    refine ⟨d0, by rw [List.length_map]; exact d1, by rw [List.length_map]; omega, fun y hy => ?_⟩
    rw [List.getElem?_map, List.getElem?_eq_getElem dl] at hy
    cases hy
    have hb2 : (M1.set a (.lst ((ls.map D.int).eraseIdx d.toNat)))[b]? = some (.lst (ts.map D.int)) := (List.getElem?_set_ne hab).trans hb1
    conv => whnf
    rw [hb2]
    refine ⟨by rw [List.length_map]; omega, ?_⟩
    have pm : (ts ++ ls).Perm ((ts ++ [ls[d.toNat]]) ++ ls.eraseIdx d.toNat) := by
      rw [List.append_assoc]
      exact List.Perm.append_left ts (perm_erase dl)
    have el : (ls.map D.int).eraseIdx d.toNat = (ls.eraseIdx d.toNat).map D.int := map_erase _ _ _
    have le : (ls.eraseIdx d.toNat).length = ls.length - 1 := List.length_eraseIdx_of_lt dl
    have next := so_loop (E := E) (x1 := x1) (x2 := x2) hC hab an bn hE k (lo + 1) (ls.eraseIdx d.toNat) (ts ++ [ls[d.toNat]]) ((M1.set a (.lst ((ls.map D.int).eraseIdx d.toNat))).set b (.lst (ts.map D.int ++ [.int ls[d.toNat]]))) (c + 1) (some (.int lo))
      (by
        obtain ⟨o, s, t, q1, q2⟩ := D1.pot
        exact ⟨o, s, t, by rw [List.getElem?_set_ne (Ne.symm bn), List.getElem?_set_ne (Ne.symm an)]; exact q1, q2⟩)
      (by omega) (by rw [List.getElem?_set_ne (Ne.symm hab), ← el]; exact set_get ha1) (by rw [List.map_append]; exact set_get hb2)
      (pm.nodup_iff.mp nd) (fun t ht => by
        rcases List.mem_append.mp ht with z | z
        · exact h1 t z
        · rw [List.mem_singleton.mp z]; exact h2 _ (List.getElem_mem dl)) (fun t ht => h2 t (List.mem_of_mem_eraseIdx ht)) (by rw [List.length_append]; show ts.length + 1 + k = k0; omega) (by omega) (by omega) (by rw [List.length_append]; show ts.length + 1 + _ ≤ 1000; omega)
    exact next
theorem Pot.lt {M : Mem} {n : Nat} {c : Int} (h : Pot M n c) : n < M.length := by
  obtain ⟨o, s, t, h1, _⟩ := h
  exact (List.getElem?_eq_some_iff.mp h1).1
theorem ok_law_some : ∀ ds M Q X, ds.length = F_law_some.par.length → F_law_some.sp ds M Q X → wpSs (tab T22) B_law_some (dEnds Q X) (dstart N_law_some ds) M := by
  intro ds M Q X hl h
  obtain ⟨n, c, ss, k, rfl, P, hc, kl, l1, nd, h⟩ := h
  have nl := P.lt
  refine ⟨(by decide : (0 : Nat) ≤ 16777216), ⟨by omega, by omega⟩, ?_⟩
  have e1 : (M ++ [MO.lst (ss.map D.int)]).length = M.length + 1 := by simp
  refine so_loop (ss := ss) (k0 := k) (C := c + k) (a := M.length) (b := (M ++ [MO.lst (ss.map D.int)]).length) (by omega) (by omega) (by omega) (by omega) (fun M3 ts x5 tl tn tm P3 e3 => ?_) k 0 ss [] _ c none ?_ (by omega) (by rw [List.getElem?_append_left (by omega)]; exact last_get M _) (last_get _ _) (by simpa using nd) (fun t ht => by cases ht) (fun t ht => ht) (by simp) kl l1 (by simp; omega)
  · exact h ts M3 _ tl tn tm (by omega) P3 e3
  · obtain ⟨o, s, t, q1, q2⟩ := P
    exact ⟨o, s, t, by rw [List.getElem?_append_left (by omega), List.getElem?_append_left nl]; exact q1, q2⟩
/-! ### free -/
theorem ok_law_is_free : ∀ ds M Q X, ds.length = F_law_is_free.par.length → F_law_is_free.sp ds M Q X → wpSs (tab T23) B_law_is_free (dEnds Q X) (dstart N_law_is_free ds) M := by
  intro ds M Q X hl h
  obtain ⟨ps, ss, ok, hB, hls, nb, rfl, h⟩ := h
  obtain ⟨zs, zok, e1, e2, e3⟩ := starts_z ok.1 hB hls
  have nb2 := nb
  rw [e3] at nb2
  have sp : ∀ (M1 : Mem) (R : DK) (Y : XD), R .non M1 → Fclash.sp [Pcs ps, Sts ss] M1 R Y := fun M1 R Y hR => by
    rw [e1, e2]
    exact clash_free zok nb2 hR
  refine ⟨rfl, sp _ _ _ ?_⟩
  refine ⟨rfl, ps, _, ok, .inl ⟨ss, hB, hls, nb, rfl⟩, rfl, fun M2 k2 => ?_⟩
  exact h M2 k2
end K45
set_option pp.deepTerms false
set_option pp.maxSteps 300
namespace K45
open PySem PySem.Spec AA
open L2 (FnScope defScope defBody)
open K10 (gcd_pos' gcd_turn lcm_eq dvd_of_mod pow_small)
open K41 (PieceOk At Both IsFirst Clash clash_iff both_min first_at at_cong First NoBar frS frA frs frS_le frA_le no_clash_room first_lap first_lt mod_le_of)
/-! ### the drawn pieces -/
noncomputable def psOf (g : Int) (ys ls : List Int) : List (Int × Int) := (ys.zip ls).map fun q => (g * q.1, q.2)
structure Picked (g : Int) (ys ls : List Int) : Prop where
  n2 : 2 ≤ ys.length
  n5 : ys.length ≤ 5
  nd : ys.Nodup
  mem : ∀ y ∈ ys, y ∈ primes
  ll : ls.length = ys.length
  g2 : 2 ≤ g
  g6 : g ≤ 6
  l1 : ∀ l ∈ ls, 1 ≤ l ∧ l ≤ g
theorem prime_rng : ∀ y ∈ primes, 1 ≤ y ∧ y ≤ 11 := by decide
section
variable {g : Int} {ys ls : List Int}
theorem psOf_len (h : Picked g ys ls) : (psOf g ys ls).length = ys.length := by
  unfold psOf
  rw [List.length_map, List.length_zip, h.ll]
  omega
theorem psOf_at {i : Nat} {p : Int × Int} (e : (psOf g ys ls)[i]? = some p) : ∃ y l, ys[i]? = some y ∧ ls[i]? = some l ∧ p = (g * y, l) := by
  unfold psOf at e
  rw [List.getElem?_map] at e
  obtain ⟨q, hq, rfl⟩ := Option.map_eq_some_iff.mp e
  obtain ⟨h1, h2⟩ := List.getElem?_zip_eq_some.mp hq
  exact ⟨q.1, q.2, h1, h2, rfl⟩
theorem psOf_ok (h : Picked g ys ls) : PsOk (psOf g ys ls) := by
  have hl := psOf_len h
  have h2 := h.n2
  have h5 := h.n5
  refine ⟨fun z => by rw [z] at hl; simp at hl; omega, by omega, fun p hp => ?_⟩
  obtain ⟨i, hi, e⟩ := List.getElem_of_mem hp
  obtain ⟨y, l, e1, e2, rfl⟩ := psOf_at (g := g) (ys := ys) (ls := ls) (i := i) (by rw [List.getElem?_eq_getElem hi, e])
  have hy := prime_rng y (h.mem y (List.mem_of_getElem? e1))
  have hll := h.l1 l (List.mem_of_getElem? e2)
  have g2 := h.g2
  have g6 := h.g6
  have a : g * 1 ≤ g * y := Int.mul_le_mul_of_nonneg_left hy.1 (by omega)
  have b : g * y ≤ 6 * 11 := Int.mul_le_mul g6 hy.2 (by omega) (by decide)
  show 1 ≤ g * y ∧ g * y ≤ 1440 ∧ 1 ≤ l ∧ l ≤ g * y
  omega
theorem psOf_one (h : Picked g ys ls) : OneG g (psOf g ys ls) := by
  intro i j p q hij hi hj
  obtain ⟨y, l, e1, e2, rfl⟩ := psOf_at hi
  obtain ⟨y', l', e3, e4, rfl⟩ := psOf_at hj
  have g2 := h.g2
  refine gcd_of (by omega) (h.mem _ (List.mem_of_getElem? e1)) (h.mem _ (List.mem_of_getElem? e3)) fun e => ?_
  subst e
  obtain ⟨a1, a2⟩ := List.getElem?_eq_some_iff.mp e1
  obtain ⟨b1, b2⟩ := List.getElem?_eq_some_iff.mp e3
  exact hij ((List.getElem_inj h.nd).mp (a2.trans b2.symm))
theorem psOf_frs (h : Picked g ys ls) : frs (psOf g ys ls) 0 (psOf g ys ls) = List.replicate ys.length g := by
  have h2 := h.n2
  have := frs_one (g := g) (by have := h.g2; omega) (by rw [psOf_len h]; exact h2) (psOf_one h)
  rw [psOf_len h] at this
  exact this
theorem psOf_try (h : Picked g ys ls) : TryOk (psOf g ys ls) := by
  refine ⟨psOf_ok h, ?_⟩
  rw [psOf_frs h]
  have h2 := h.n2
  have h5 := h.n5
  have g2 := h.g2
  have g6 := h.g6
  generalize ys.length = n at h2 h5
  have a : n = 2 ∨ n = 3 ∨ n = 4 ∨ n = 5 := by omega
  have b : g = 2 ∨ g = 3 ∨ g = 4 ∨ g = 5 ∨ g = 6 := by omega
  rcases a with rfl | rfl | rfl | rfl <;> rcases b with rfl | rfl | rfl | rfl | rfl <;> decide
theorem psOf_sum (h : Picked g ys ls) : sumL (psOf g ys ls) = ls.sum := by
  unfold sumL psOf
  rw [List.map_map]
  have : ((fun x : Int × Int => x.2) ∘ fun q : Int × Int => (g * q.1, q.2)) = Prod.snd := rfl
  rw [this, List.map_snd_zip (by rw [h.ll]; exact Nat.le_refl _)]
theorem psOf_l1 (h : Picked g ys ls) : ∀ p ∈ psOf g ys ls, 1 ≤ p.2 ∧ p.2 ≤ g := fun p hp => by
  obtain ⟨i, hi, e⟩ := List.getElem_of_mem hp
  obtain ⟨y, l, e1, e2, rfl⟩ := psOf_at (g := g) (ys := ys) (ls := ls) (i := i) (by rw [List.getElem?_eq_getElem hi, e])
  exact h.l1 l (List.mem_of_getElem? e2)
end
/-! ### the walk: the longs -/
noncomputable def lgE : E := .bin .add (.int 1) (.call 20 (.cons (.var 0) (.cons (.ife (.cmp .gt (.var 2) (.int 3)) (.int 2) (.int 1)) .nil)))
theorem lg_comp {Q : List D → Mem → Prop} {n f : Nat} {C g : Int} {ys : List Int} {x1 : Option D} (hC : C < 1000000) (g2 : 2 ≤ g) (hf : f ≠ n)
    (h : ∀ (ls : List Int) (M : Mem), ls.length = ys.length → (∀ l ∈ ls, 1 ≤ l ∧ l ≤ g) → Pot M n C → M[f]? = some (.lst (ys.map D.int)) → Q (ls.map D.int) M) :
    ∀ (rest ls : List Int) (M : Mem) (c : Int), ls.length + rest.length = ys.length → ys.length ≤ 1000 → (∀ l ∈ ls, 1 ≤ l ∧ l ≤ g) → Pot M n c → c + rest.length ≤ C → M[f]? = some (.lst (ys.map D.int)) →
    compD (bindT (.nm 5)) (wpC (tab T24) .no) (wpE (tab T24) lgE) (stayD (.ref f) (ys.map D.int)) [some (.ref n), x1, some (.int g), some (.ref f), none, none, none, none, none, none, none, none, none] Q (rest.map D.int) (ls.map D.int) M
  | [], ls, M, c, hl, hn, hb, hp, hc, hm => ⟨seqD_ref hm, h ls M (by simpa using hl) hb (hp.le (by simp at hc; omega)) hm⟩
  | y :: rest, ls, M, c, hl, hn, hb, hp, hc, hm => by
    simp only [List.length_cons] at hl hc
    have next : ∀ (d u : Int) (M1 : Mem), 0 ≤ d → d < u → u ≤ 2 → (u = 2 → 3 < g) → Drawn M M1 n c → compD (bindT (.nm 5)) (wpC (tab T24) .no) (wpE (tab T24) lgE) (stayD (.ref f) (ys.map D.int)) [some (.ref n), x1, some (.int g), some (.ref f), none, none, none, none, none, none, none, none, none] Q (rest.map D.int) (ls.map D.int ++ [.int (1 + d)]) M1 := by
      intro d u M1 d0 d1 u2 hu D1
      have := lg_comp (x1 := x1) hC g2 hf h rest (ls ++ [1 + d]) M1 (c + 1) (by rw [List.length_append, List.length_singleton]; omega) hn (fun l hl' => by
        rcases List.mem_append.mp hl' with z | z
        · exact hb l z
        · rw [List.mem_singleton.mp z]; omega) D1.pot (by omega) (by rw [D1.oth f hf]; exact hm)
      rw [List.map_append] at this
      exact this
    refine ⟨seqD_ref hm, ?_⟩
    by_cases z : 3 < g
    · refine iteT (c := decide (3 < g) = true) (decide_eq_true z) ?_
      refine ⟨rfl, take_call hp (by omega) (by decide) (by decide) fun d M1 d0 d1 D1 => ?_⟩
      exact ⟨by rw [List.length_map]; omega, next d 2 M1 d0 d1 (by decide) (fun _ => z) D1⟩
    · refine iteF (c := decide (3 < g) = true) (by rw [decide_eq_false z]; decide) ?_
      refine ⟨rfl, take_call hp (by omega) (by decide) (by decide) fun d M1 d0 d1 D1 => ?_⟩
      exact ⟨by rw [List.length_map]; omega, next d 1 M1 d0 d1 (by decide) (fun e => by omega) D1⟩
/-! ### what is taken -/
noncomputable def tkB : Ss := match (Nat.rec B_law_right (fun _ s => restS s) 10 : Ss) with | .cons (.for_ _ _ b) _ => b | _ => .nil
noncomputable def tkF (s g : Int) (d : D) : D := match d with
  | .int o => .int ((s + o) % g)
  | d => d
theorem tk_map (s g : Int) (n : Nat) : (rngL 0 n).map (tkF s g) = ((List.range n).map fun k : Nat => (s + (k : Int)) % g).map D.int := by
  unfold rngL
  rw [List.map_map, List.map_map]
  refine List.map_congr_left fun k _ => ?_
  show D.int ((s + (0 + (k : Nat))) % g) = D.int ((s + (k : Int)) % g)
  rw [Int.zero_add]
theorem tk_loop {E : DE} {M0 : Mem} {t : Nat} {g : Int} {ps : List (Int × Int)} {ss : List Int} {x0 x1 x3 x4 x5 x6 x8 : Option D} (g0 : 0 < g) (tl : M0.length ≤ t)
    (hE : ∀ M a b c, Kept M0 M → M[t]? = some (.lst ((takenL g (ps.zip ss)).map D.int)) → E.nx [x0, x1, some (.int g), x3, x4, x5, x6, a, x8, some (.ref t), b, c, none] M) {st : Mem → Prop} (hst : ∀ M, st M) :
    ∀ (rest done : List ZZ) (M : Mem) (a b c : Option D), done ++ rest = ps.zip ss → (∀ z ∈ rest, 1 ≤ z.1.2 ∧ z.1.2 ≤ 10) → done.length + rest.length ≤ 5 → (takenL g done).length ≤ 10 * done.length → Kept M0 M → M[t]? = some (.lst ((takenL g done).map D.int)) →
    forD (bindT (.tp (.cons (.nm 10) (.cons (.tp (.cons (.nm 11) (.cons (.nm 7) .nil))) .nil)))) (wpSs (tab T24) tkB) st E (rest.map zItem) [x0, x1, some (.int g), x3, x4, x5, x6, a, x8, some (.ref t), b, c, none] M
  | [], done, M, a, b, c, e, _, _, _, kp, hm => by
    rw [List.append_nil] at e
    subst e
    exact ⟨hst M, hE M a b c kp hm⟩
  | z :: rest, done, M, a, b, c, e, hz, h5, hd, kp, hm => by
    obtain ⟨z1, z2⟩ := hz z List.mem_cons_self
    simp only [List.length_cons] at h5
    refine ⟨hst M, ?_⟩
    conv => whnf
    rw [hm]
    refine ⟨⟨by omega, by omega⟩, ?_⟩
    refine AA.comp_map (stay := fun _ => True) trivial (tkF z.2 g) (rngL 0 z.1.2.toNat) [] (fun x hx => ?_) (by rw [rngL_length]; simp; omega) ?_
    · obtain ⟨o, rfl, o0, o1⟩ := mem_rngL hx
      exact ⟨_, rfl, fun R X hR => ⟨g0, hR⟩⟩
    · rw [List.nil_append, tk_map]
      have hl : t < M.length := (List.getElem?_eq_some_iff.mp hm).1
      have hm2 : (M ++ [MO.lst (((List.range z.1.2.toNat).map fun k : Nat => (z.2 + (k : Int)) % g).map D.int)])[t]? = some (.lst ((takenL g done).map D.int)) := by rw [List.getElem?_append_left hl]; exact hm
      conv => whnf
      rw [hm2]
      conv => whnf
      rw [last_get]
      have len2 : (takenL g (done ++ [z])).length = (takenL g done).length + z.1.2.toNat := by
        unfold takenL
        rw [List.flatMap_append, List.length_append, List.flatMap_singleton]
        unfold takenZ
        rw [List.length_map, List.length_range]
      refine ⟨by rw [List.length_map, List.length_map, List.length_map, List.length_range]; omega, ?_⟩
      have next := tk_loop (E := E) (x0 := x0) (x1 := x1) (x3 := x3) (x4 := x4) (x5 := x5) (x6 := x6) (x8 := x8) g0 tl hE hst rest (done ++ [z]) ((M ++ [MO.lst (((List.range z.1.2.toNat).map fun k : Nat => (z.2 + (k : Int)) % g).map D.int)]).set t (.lst ((takenL g done).map D.int ++ ((List.range z.1.2.toNat).map fun k : Nat => (z.2 + (k : Int)) % g).map D.int)))
        (some (.int z.1.2)) (some (.int z.2)) (some (.int z.1.1)) (by rw [List.append_assoc]; exact e) (fun y hy => hz y (List.mem_cons_of_mem _ hy)) (by rw [List.length_append, List.length_singleton]; omega) (by rw [len2, List.length_append, List.length_singleton]; omega) ((kp.snoc _).set tl _) (by
          rw [List.getElem?_set_self (by simp; omega)]
          unfold takenL
          rw [List.flatMap_append, List.flatMap_singleton, List.map_append]
          rfl)
      exact next
end K45
set_option pp.deepTerms false
set_option pp.maxSteps 300
namespace K45
open PySem PySem.Spec AA
open L2 (FnScope defScope defBody)
open K10 (gcd_pos' gcd_turn lcm_eq dvd_of_mod pow_small)
open K41 (PieceOk At Both IsFirst Clash clash_iff both_min first_at at_cong First NoBar frS frA frs frS_le frA_le no_clash_room first_lap first_lt mod_le_of)
theorem primes_map : primes.map D.int = [.int 1, .int 2, .int 3, .int 5, .int 7, .int 11] := rfl
noncomputable def pcF (g : Int) (d : D) : D := match d with
  | .tup [.int p, l] => .tup [.int (g * p), l]
  | d => d
theorem pc_map (g : Int) : ∀ (ys ls : List Int), (zipL (ys.map D.int) (ls.map D.int)).map (pcF g) = (psOf g ys ls).map Pair
  | [], _ => rfl
  | _ :: _, [] => rfl
  | y :: ys, l :: ls => by
    have ih := pc_map g ys ls
    unfold zipL psOf at *
    simp only [List.map_cons, List.zip_cons_cons, ih]
    rfl
theorem flat_rep (g : D) (n : Nat) : (List.replicate n [g]).flatten = List.replicate n g := by
  induction n with
  | zero => rfl
  | succ n ih => rw [List.replicate_succ, List.flatten_cons, ih, List.replicate_succ]; rfl
theorem shaped_bl (b : Bool) : SeqAt.shaped (.bool b) = true := rfl
theorem eqv_bl (a b : Bool) : PyData.eqv (.bool a) (.bool b) = decide (a = b) := by cases a <;> cases b <;> simp [PyData.eqv]
theorem ne_tints {M : Mem} {a b : List Int} {k : Bool → Prop} (h : k (!decide (a = b))) : cmpD .ne M (.tup (a.map D.int)) (.tup (b.map D.int)) k := by
  show eqRest M (.tup (a.map D.int)) (.tup (b.map D.int)) fun b => k (!b)
  have e1 : pdM M (.tup (a.map D.int)) = some (.tuple (a.map PyData.int)) := pd_tints a
  have e2 : pdM M (.tup (b.map D.int)) = some (.tuple (b.map PyData.int)) := pd_tints b
  unfold eqRest
  rw [e1, e2]
  refine ⟨shaped_tints a, shaped_tints b, ?_⟩
  rw [eqv_tup]
  exact h
theorem ok_law_right : ∀ ds M Q X, ds.length = F_law_right.par.length → F_law_right.sp ds M Q X → wpSs (tab T24) B_law_right (dEnds Q X) (dstart N_law_right ds) M := by
  intro ds M Q X hl h
  obtain ⟨n, c, rfl, hp, hc, h⟩ := h
  refine ⟨rfl, take_call hp (by omega) (by decide) (by decide) fun m M1 m0 m1 D1 => ?_⟩
  refine ⟨rfl, take_call D1.pot (by omega) (by decide) (by decide) fun g' M2 g0 g1 D2 => ?_⟩
  obtain ⟨k, hk, k2, k5⟩ : ∃ k : Nat, 2 + m = (k : Int) ∧ 2 ≤ k ∧ k ≤ 5 := ⟨(2 + m).toNat, by omega, by omega, by omega⟩
  obtain ⟨g, hg, g2, g6⟩ : ∃ g : Int, 2 + g' = g ∧ 2 ≤ g ∧ g ≤ 6 := ⟨_, rfl, by omega, by omega⟩
  refine ⟨(by decide : (2 : Nat) ≤ 16777216), ?_⟩
  rw [hk, hg]
  refine ⟨(by decide : (6 : Nat) ≤ 16777216), ?_⟩
  refine ⟨rfl, n, c + 1 + 1, primes, k, rfl, D2.pot, by omega, by show k ≤ 6; omega, by decide, by decide, fun ys M3 f hyl hynd hym hfn p3 hf3 => ?_⟩
  conv => whnf
  rw [seqD_ref hf3]
  refine lg_comp (f := f) (n := n) (C := c + 1 + 1 + k + k) (g := g) (ys := ys) (by omega) g2 hfn (fun ls M4 hll hl1 p4 hf4 => ?_) ys [] M3 (c + 1 + 1 + k) (by simp) (by omega) (fun l hl => by cases hl) p3 (by omega) hf3
  have pk : Picked g ys ls := ⟨by omega, by omega, hynd, hym, hll, g2, g6, hl1⟩
  conv => whnf
  rw [seqD_ref hf4]
  refine ⟨fun _ => rfl, ?_⟩
  refine AA.comp_map (stay := fun M => stayD (.ref f) (ys.map D.int) M ∧ stayD (.lst (ls.map D.int)) (ls.map D.int) M) ⟨seqD_ref hf4, rfl⟩ (pcF g) (zipL (ys.map D.int) (ls.map D.int)) [] (fun d hd => ?_) (by rw [zipL_length, List.length_map]; simp; omega) ?_
  · obtain ⟨i, y, l, hy, hl', rfl⟩ := mem_zipI hd
    have := prime_rng y (hym y (List.mem_of_getElem? hy))
    exact ⟨_, rfl, fun R X' hR => ⟨mul_r (by omega) (by omega), (by decide : (2 : Nat) ≤ 16777216), hR⟩⟩
  rw [List.nil_append, pc_map]
  refine ⟨rfl, psOf g ys ls, psOf_ok pk, rfl, (by decide : (1 : Nat) ≤ 16777216), ⟨by simp, by omega, by omega, by simp⟩, ?_⟩
  have ef : (List.replicate ((k : Int)).toNat [D.int g]).flatten = (List.replicate k g).map D.int := by rw [flat_rep, List.map_replicate]; rfl
  rw [ef]
  refine ne_tints ?_
  refine iteF (c := (!decide (frs (psOf g ys ls) 0 (psOf g ys ls) = List.replicate k g)) = true) (by rw [psOf_frs pk, hyl]; simp) ?_
  have tok := psOf_try pk
  refine ⟨rfl, psOf g ys ls, psOf_ok pk, rfl, fun hw d M6 hd kp => ?_, fun hw => absurd tok.2 (by omega)⟩
  have p6 : Pot M6 n (c + 1 + 1 + k + k) := p4.kept (((Kept.refl M4).snoc _).trans kp)
  have hl0 := psOf_l1 pk
  have hlen := psOf_len pk
  rcases hd with ⟨ss, hB, hls, nb, rfl⟩ | ⟨nf, rfl⟩
  · have hs : ls.sum ≤ g := by
      obtain ⟨zs, e1, e2, e3⟩ := unzip hls
      rw [e3] at nb
      have := sum_le (g := g) (zs := zs) (by omega) (by rw [← e1]; exact psOf_one pk) nb fun z hz => hl0 z.1 (by rw [e1]; exact List.mem_map.mpr ⟨z, hz, rfl⟩)
      rw [← e1, psOf_sum pk] at this
      exact this
    conv => whnf
    rw [intsD_map]
    refine ⟨shaped_bl _, shaped_bl _, ?_⟩
    refine iteF (c := (!PyData.eqv (.bool (decide (("starts" : Str) = "starts"))) (.bool (decide (ls.sum ≤ g)))) = true) (by rw [eqv_bl, decide_eq_true hs]; simp) ?_
    refine ⟨rfl, psOf g ys ls, _, tok, .inl ⟨ss, hB, hls, nb, rfl⟩, rfl, fun M7 k7 => ?_⟩
    refine ⟨rfl, psOf g ys ls, ss, tok, hB, hls, nb, rfl, fun M8 k8 => ?_⟩
    refine ⟨(by decide : (0 : Nat) ≤ 16777216), ?_⟩
    refine ⟨fun _ => rfl, ?_⟩
    have ez : zipL (ss.map D.int) ((psOf g ys ls).map Pair) = ((psOf g ys ls).zip ss).map zItem := by
      obtain ⟨zs, e1, e2, e3⟩ := unzip hls
      rw [e3, e1, e2]
      exact zip_items zs
    have hzl : ((psOf g ys ls).zip ss).length = ys.length := by rw [List.length_zip, hls, hlen]; omega
    have hz1 : ∀ z ∈ (psOf g ys ls).zip ss, z.1 ∈ psOf g ys ls := fun z hz => (List.of_mem_zip (a := z.1) (b := z.2) hz).1
    rw [ez]
    refine tk_loop (ps := psOf g ys ls) (ss := ss) (M0 := M8) (t := M8.length) (g := g) (by omega) (Nat.le_refl _) (fun M9 a b d k9 h9 => ?_) (fun M => ⟨rfl, rfl⟩) _ [] _ none none none rfl (fun z hz => ?_) (by rw [hzl]; simp; omega) (Nat.le_refl _) ((Kept.refl M8).snoc _) (last_get _ _)
    · have nd : (takenL g ((psOf g ys ls).zip ss)).Nodup := by
        obtain ⟨zs, e1, e2, e3⟩ := unzip hls
        rw [e3]
        rw [e3] at nb hz1
        exact taken_nodup (by omega) (by rw [← e1]; exact psOf_one pk) nb fun z hz => (hl0 _ (hz1 z hz)).2
      have hlt : (takenL g ((psOf g ys ls).zip ss)).length ≤ 4000 := by
        have := ints_len (g := g) (by omega) nd fun x hx => by
          obtain ⟨z, _, hm⟩ := List.mem_flatMap.mp hx
          obtain ⟨k, _, rfl⟩ := mem_taken.mp hm
          exact ⟨Int.emod_nonneg _ (by omega), Int.emod_lt_of_pos _ (by omega)⟩
        omega
      refine .inl ?_
      conv => whnf
      rw [lstD_ref h9]
      conv => whnf
      rw [intsD_map]
      refine ⟨nd, hlt, ?_⟩
      conv => whnf
      rw [h9]
      refine ⟨shaped_int _, shaped_int _, ?_⟩
      show Q (.bl (PyData.eqv (.int ((takenL g ((psOf g ys ls).zip ss)).length : Int)) (.int (((takenL g ((psOf g ys ls).zip ss)).map D.int).length : Int)))) M9
      rw [eqv_int, decide_eq_true (by rw [List.length_map])]
      exact h M9 ((p6.kept ((k7.trans k8).trans k9)).le (by omega))
    · have := hl0 _ (hz1 z hz)
      omega
  · have hs : ¬ ls.sum ≤ g := fun hs => by
      obtain ⟨ss, h1, h2, h3⟩ := seq_free (g := g) (by omega) (by rw [hlen]; exact pk.n2) (psOf_one pk) (fun p hp => (hl0 p hp).1) (by rw [psOf_sum pk]; exact hs)
      exact nf ss h1 h2 h3
    conv => whnf
    rw [intsD_map]
    refine ⟨shaped_bl _, shaped_bl _, ?_⟩
    refine iteF (c := (!PyData.eqv (.bool (decide (("cases" : Str) = "starts"))) (.bool (decide (ls.sum ≤ g)))) = true) (by rw [eqv_bl, decide_eq_false hs]; decide) ?_
    refine ⟨rfl, psOf g ys ls, _, tok, .inr ⟨nf, rfl⟩, rfl, fun M7 k7 => ?_⟩
    conv => whnf
    rw [intsD_map]
    show Q (.bl (decide (g < ls.sum))) M7
    rw [decide_eq_true (by omega)]
    exact h M7 ((p6.kept k7).le (by omega))
end K45
set_option pp.deepTerms false
set_option pp.maxSteps 300
namespace K45
open PySem PySem.Spec AA
open L2 (FnScope defScope defBody)
open K10 (gcd_pos' gcd_turn lcm_eq dvd_of_mod pow_small)
open K41 (PieceOk At Both IsFirst Clash clash_iff both_min first_at at_cong First NoBar frS frA frs frS_le frA_le no_clash_room first_lap first_lt mod_le_of)
/-! ### two of one round, three by hand -/
noncomputable def two (e a b : Int) : List (Int × Int) := [(e, a), (e, b)]
theorem two_one {e a b : Int} (e0 : 0 < e) : OneG e (two e a b) := by
  have hg : (Int.gcd e e : Int) = e := by simp only [Int.gcd_self]; omega
  intro i j p q hij hi hj
  have hi2 : i < 2 := (List.getElem?_eq_some_iff.mp hi).1
  have hj2 : j < 2 := (List.getElem?_eq_some_iff.mp hj).1
  have : (i = 0 ∧ j = 1) ∨ (i = 1 ∧ j = 0) := by omega
  rcases this with ⟨rfl, rfl⟩ | ⟨rfl, rfl⟩ <;> cases hi <;> cases hj <;> exact hg
theorem two_try {e a b : Int} (e0 : 120 ≤ e) (e1 : e ≤ 1440) (a0 : 1 ≤ a) (a1 : a ≤ e) (b0 : 1 ≤ b) (b1 : b ≤ e) : TryOk (two e a b) := by
  refine ⟨⟨by simp [two], by simp [two], fun p hp => ?_⟩, ?_⟩
  · have : p = (e, a) ∨ p = (e, b) := by simpa [two] using hp
    rcases this with rfl | rfl
    · show 1 ≤ e ∧ e ≤ 1440 ∧ 1 ≤ a ∧ a ≤ e; omega
    · show 1 ≤ e ∧ e ≤ 1440 ∧ 1 ≤ b ∧ b ≤ e; omega
  · rw [frs_one (g := e) (by omega) (by simp [two]) (two_one (by omega))]
    show e * 1 ≤ 20000
    omega
theorem two_free {e a : Int} (a0 : 1 ≤ a) (a1 : a < e) {ss : List Int} (hl : ss.length = (two e a (e - a)).length) (nb : NoBar zC ((two e a (e - a)).zip ss)) : ∃ s b, ss = [s, b] ∧ (b - s) % e = a := by
  match ss, hl with
  | [s, b], _ =>
    refine ⟨s, b, rfl, ?_⟩
    have h := nb 0 1 _ _ (by decide) rfl rfl
    unfold zC Clash at h
    have hg : (Int.gcd e e : Int) = e := by simp only [Int.gcd_self]; omega
    simp only [hg] at h
    have h1 : a ≤ (b - s) % e := by omega
    have h2 : e - a ≤ (s - b) % e := by omega
    have z1 := Int.emod_add_mul_ediv (b - s) e
    have d1 := Int.emod_lt_of_pos (b - s) (show 0 < e by omega)
    have := mod_le_of (a := s - b) (c := e - (b - s) % e) (g := e) (by omega) (by omega) ⟨-((b - s) / e) - 1, by rw [Int.mul_sub, Int.mul_neg]; omega⟩
    omega
theorem two_full {e a : Int} (a0 : 1 ≤ a) (a1 : a < e) : ∃ ss, Begun (two e a (e - a)) ss ∧ ss.length = (two e a (e - a)).length ∧ NoBar zC ((two e a (e - a)).zip ss) :=
  seq_free (g := e) (by omega) (by simp [two]) (two_one (by omega)) (fun p hp => by
    have : p = (e, a) ∨ p = (e, e - a) := by simpa [two] using hp
    rcases this with rfl | rfl
    · show 1 ≤ a; omega
    · show 1 ≤ e - a; omega) (by simp [sumL, two]; omega)
/-- two that are longer than their common factor -/
theorem two_none {p q : Int × Int} (hp : PieceOk p) (hq : PieceOk q) (h : (Int.gcd p.1 q.1 : Int) < p.2 + q.2) {ss : List Int} (hl : ss.length = 2) (nb : NoBar zC ([p, q].zip ss)) : False := by
  match ss, hl with
  | [s, b], _ =>
    have := no_clash_room hp hq (nb 0 1 (p, s) (q, b) (by decide) rfl rfl)
    omega
theorem told_cases {ps : List (Int × Int)} {d : D} (h : Told ps d) (no : ∀ ss : List Int, ss.length = ps.length → NoBar zC (ps.zip ss) → False) : ∃ cs, d = .tup [.str "cases", .tup cs] := by
  rcases h with ⟨ss, _, hl, nb, _⟩ | ⟨_, rfl⟩
  · exact (no ss hl nb).elim
  · exact ⟨_, rfl⟩
noncomputable def three (w : Int) : List (Int × Int) := [(6 * w, w), (10 * w, w), (15 * w, w)]
theorem three_try {w : Int} (h0 : 1 ≤ w) (h1 : w ≤ 3) : TryOk (three w) := by
  refine ⟨⟨by simp [three], by simp [three], fun p hp => ?_⟩, ?_⟩
  · have : p = (6 * w, w) ∨ p = (10 * w, w) ∨ p = (15 * w, w) := by simpa [three] using hp
    unfold PieceOk
    rcases this with rfl | rfl | rfl
    · show 1 ≤ 6 * w ∧ 6 * w ≤ 1440 ∧ 1 ≤ w ∧ w ≤ 6 * w; omega
    · show 1 ≤ 10 * w ∧ 10 * w ≤ 1440 ∧ 1 ≤ w ∧ w ≤ 10 * w; omega
    · show 1 ≤ 15 * w ∧ 15 * w ≤ 1440 ∧ 1 ≤ w ∧ w ≤ 15 * w; omega
  · have : w = 1 ∨ w = 2 ∨ w = 3 := by omega
    rcases this with rfl | rfl | rfl <;> decide +kernel
noncomputable def great : List (Int × Int) := [(1440, 1), (1440, 1), (1440, 1)]
theorem great_ok : PsOk great ∧ 20000 < ways (frs great 0 great) := by
  refine ⟨⟨by simp [great], by simp [great], fun p hp => ?_⟩, by decide +kernel⟩
  have : p = (1440, 1) := by simpa [great] using hp
  subst this
  unfold PieceOk
  omega
noncomputable def four : List (Int × Int) := [(4, 2), (6, 1)]
theorem four_try : TryOk four := by
  refine ⟨⟨by simp [four], by simp [four], fun p hp => ?_⟩, by decide +kernel⟩
  have : p = (4, 2) ∨ p = (6, 1) := by simpa [four] using hp
  rcases this with rfl | rfl <;> (unfold PieceOk; omega)
theorem place_call {ps : List (Int × Int)} (ok : TryOk ps) {M : Mem} {Q : DK} {X : XD} (h : ∀ d M', Told ps d → Kept M M' → Q d M') : Fplacing.sp [Pcs ps] M Q X :=
  ⟨ps, ok.1, rfl, fun _ => h, fun hw => absurd ok.2 (by omega)⟩
theorem ok_law_is_full_right : ∀ ds M Q X, ds.length = F_law_is_full_right.par.length → F_law_is_full_right.sp ds M Q X → wpSs (tab T25) B_law_is_full_right (dEnds Q X) (dstart N_law_is_full_right ds) M := by
  intro ds M Q X hl h
  obtain ⟨n, c, rfl, hp, hc, h⟩ := h
  refine ⟨rfl, take_call hp (by omega) (by decide) (by decide) fun m M1 m0 m1 D1 => ?_⟩
  refine ⟨mul_l (by decide) (by decide), ?_⟩
  obtain ⟨e, he, e0, e1, e2⟩ : ∃ e : Int, 2 * (60 + m) = e ∧ 120 ≤ e ∧ e ≤ 1440 ∧ e / 2 = 60 + m := ⟨_, rfl, by omega, by omega, by omega⟩
  rw [he]
  refine ⟨div_ok (by decide) (by decide), ?_⟩
  refine ⟨rfl, take_call D1.pot (by omega) (by omega) (by omega) fun t M2 t0 t1 D2 => ?_⟩
  obtain ⟨o, ho, o0, o1⟩ : ∃ o : Int, 1 + t = o ∧ 1 ≤ o ∧ o < e := ⟨_, rfl, by omega, by omega⟩
  refine ⟨(by decide : (2 : Nat) ≤ 16777216), (by decide : (2 : Nat) ≤ 16777216), (by decide : (2 : Nat) ≤ 16777216), ?_⟩
  rw [ho]
  refine ⟨rfl, place_call (ps := two e o (e - o)) (two_try e0 e1 o0 (by omega) (by omega) (by omega)) fun d M3 hd k3 => ?_⟩
  rcases hd with ⟨ss, hB, hls, nb, rfl⟩ | ⟨nf, _⟩
  · obtain ⟨s, b, rfl, hsb⟩ := two_free o0 o1 hls nb
    refine ⟨rfl, two e o (e - o), [s, b], two_try e0 e1 o0 (by omega) (by omega) (by omega), hB, hls, nb, rfl, fun M4 k4 => ?_⟩
    refine ⟨by omega, shaped_int _, shaped_int _, ?_⟩
    refine iteF (c := (!PyData.eqv (.int ((b - s) % e)) (.int o)) = true) (ne_int' hsb) ?_
    refine ⟨(by decide : (2 : Nat) ≤ 16777216), (by decide : (2 : Nat) ≤ 16777216), (by decide : (2 : Nat) ≤ 16777216), ?_⟩
    refine ⟨rfl, place_call (ps := two e o (e - o + 1)) (two_try e0 e1 o0 (by omega) (by omega) (by omega)) fun d5 M5 hd5 k5 => ?_⟩
    have hee : (Int.gcd e e : Int) = e := by simp only [Int.gcd_self]; omega
    obtain ⟨cs, rfl⟩ := told_cases hd5 fun ss hl nb => two_none (p := (e, o)) (q := (e, e - o + 1)) (by unfold PieceOk; simp only; omega) (by unfold PieceOk; simp only; omega) (by simp only [hee]; omega) hl nb
    refine ⟨rfl, take_call (D2.pot.kept ((k3.trans k4).trans k5)) (by omega) (by decide) (by decide) fun v M6 v0 v1 D6 => ?_⟩
    obtain ⟨w, hw, w0, w1⟩ : ∃ w : Int, 1 + v = w ∧ 1 ≤ w ∧ w ≤ 3 := ⟨_, rfl, by omega, by omega⟩
    refine ⟨mul_l (by decide) (by decide), (by decide : (2 : Nat) ≤ 16777216), mul_l (by decide) (by decide), (by decide : (2 : Nat) ≤ 16777216), mul_l (by decide) (by decide), (by decide : (2 : Nat) ≤ 16777216), (by decide : (3 : Nat) ≤ 16777216), ?_⟩
    rw [hw]
    refine ⟨rfl, place_call (ps := three w) (three_try w0 w1) fun d7 M7 hd7 k7 => ?_⟩
    refine ⟨rfl, three w, d7, three_try w0 w1, hd7, rfl, fun M8 k8 => ?_⟩
    refine ⟨(by decide : (2 : Nat) ≤ 16777216), (by decide : (2 : Nat) ≤ 16777216), (by decide : (2 : Nat) ≤ 16777216), ?_⟩
    refine ⟨rfl, place_call (ps := four) four_try fun d9 M9 hd9 k9 => ?_⟩
    obtain ⟨cs9, rfl⟩ := told_cases hd9 fun ss hl nb => two_none (p := (4, 2)) (q := (6, 1)) (by unfold PieceOk; decide) (by unfold PieceOk; decide) (by decide) hl nb
    refine ⟨(by decide : (2 : Nat) ≤ 16777216), (by decide : (2 : Nat) ≤ 16777216), (by decide : (2 : Nat) ≤ 16777216), (by decide : (3 : Nat) ≤ 16777216), (by decide : (2 : Nat) ≤ 16777216), ?_⟩
    refine ⟨rfl, great, great_ok.1, rfl, fun hw => absurd great_ok.2 (by omega), fun hw M10 k10 => ?_⟩
    refine ⟨by decide, ?_⟩
    have pe : Pot M10 n (c + 100) := (D6.pot.kept (((k7.trans k8).trans k9).trans k10)).le (by omega)
    refine ⟨by decide, ?_⟩
    refine ⟨by decide, rfl, rep_small (by decide) (by decide), ?_⟩
    show Q (.bl (decide (PyData.shown (.int 20000) = ("20000" : Str)))) M10
    rw [decide_eq_true (show PyData.shown (.int 20000) = ("20000" : Str) by decide +kernel)]
    exact h M10 pe
  · obtain ⟨ss, h1, h2, h3⟩ := two_full (e := e) o0 o1
    exact absurd h3 (nf ss h1 h2)
/-! ### the law -/
noncomputable def lawE1 : E := .call 24 (.cons (.var 2) .nil)
theorem law_c1 {Q : List D → Mem → Prop} {a b : Option D} {m : Nat} : ∀ (n : Nat) (lo : Int) (acc : List D) (j : Nat) (M : Mem) (c : Int), Pot M m c → c + 100 * n < 600000 → acc = List.replicate j (.bl true) → j + n ≤ 20 → (∀ M', Pot M' m (c + 100 * n) → Q (List.replicate (j + n) (.bl true)) M') →
    compD (bindT (.nm 3)) (wpC (tab T26) .no) (wpE (tab T26) lawE1) (fun _ => True) [a, b, some (.ref m), none] Q (rngL lo n) acc M
  | 0, lo, acc, j, M, c, hp, hc, e, hl, h => by
    subst e
    exact ⟨trivial, h M (hp.le (by simp))⟩
  | n + 1, lo, acc, j, M, c, hp, hc, e, hl, h => by
    rw [rngL_succ]
    refine ⟨trivial, rfl, m, c, rfl, hp, by omega, fun M' hp' => ?_⟩
    refine ⟨by rw [e, List.length_replicate]; omega, ?_⟩
    refine law_c1 n (lo + 1) _ (j + 1) M' (c + 100) hp' (by omega) (by rw [e, List.replicate_succ']) (by omega) fun M2 p2 => ?_
    rw [show j + 1 + n = j + (n + 1) by omega]
    exact h M2 (p2.le (by omega))
noncomputable def lawB : Ss := match Blaw with | .cons (.for_ _ _ b) _ => b | _ => .nil
theorem law_loop {E : DE} {ns : List Int} {k : Nat} (hE : ∀ M a b, E.nx [some (.lst (ns.map D.int)), a, b, none] M) : ∀ (n lo : Nat) (M : Mem) (a b : Option D), lo + n ≤ 2 →
    forD (bindT (.nm 1)) (wpSs (tab T26) lawB) (stayD (.lst (rngL 0 k)) (rngL 0 k)) E (rngL lo n) [some (.lst (ns.map D.int)), a, b, none] M
  | 0, lo, M, a, b, h => ⟨rfl, hE M a b⟩
  | n + 1, lo, M, a, b, h => by
    rw [rngL_succ]
    refine ⟨rfl, rfl, ns, lo, rfl, by omega, fun own small s0 s1 => ?_⟩
    have hp : Pot (M ++ [potL own small 0]) M.length 0 := ⟨own, small, 0, last_get M _, by decide, by decide, s0, s1⟩
    refine ⟨⟨by decide, by decide⟩, ?_⟩
    refine law_c1 4 0 [] 0 _ 0 hp (by decide) rfl (by decide) fun M2 p2 => ?_
    refine ⟨rfl, M.length, _, rfl, p2, by decide, fun M3 _ => ?_⟩
    have next := law_loop (E := E) (ns := ns) (k := k) hE n (lo + 1) M3 (some (.int lo)) (some (.ref M.length)) (by omega)
    rw [show ((lo + 1 : Nat) : Int) = (lo : Int) + 1 by omega] at next
    exact next
theorem oklaw : ∀ ds M Q X, ds.length = Flaw.par.length → Flaw.sp ds M Q X → wpSs (tab T26) Blaw (dEnds Q X) (dstart Nlaw ds) M := by
  intro ds M Q X hl h
  obtain ⟨ns, hn, rfl, h⟩ := h
  refine ⟨rfl, ns, hn, rfl, fun k hk => ?_⟩
  exact law_loop (k := k) (fun M a b => h M) k 0 M none none (by omega)
theorem law_sp (ns : List Int) (hl : ns.length ≤ 63) : Flaw.sp [.lst (ns.map D.int)] [] (fun d _ => d = .bl true) (fun _ _ _ => False) := ⟨ns, hl, rfl, fun _ => rfl⟩
end K45
namespace K45
open PySem PySem.Spec AA
open L2 (FnScope defScope defBody)
open K10 (gcd_pos' gcd_turn lcm_eq dvd_of_mod)
open K41 (PieceOk At Both IsFirst Clash clash_iff both_min first_at at_cong First NoBar frS frA frs frS_le frA_le no_clash_room first_lap first_lt mod_le_of)
noncomputable def inner : Stmt → Stmt
  | .ClassDef _ _ _ (b :: _) _ _ _ _ _ _ _ => b
  | s => s
theorem top_super : (pw.main.scope.names.lookup ("super" : Str)).isSome = false := by decide +kernel
theorem all_mk {w : World} {K : PySem.W.Frag} {h : Heap} {mg : Str → Option Value} {fa : Addr} {q : Program} (X : K.In h) (G : h.Ns mainGlobals mg) (TT : ∀ (x : Str) (c P : Addr), PySem.W.tabIn K x = some (c, P) → ((PyProof.Rows.recsOf q).any fun e => e.name == x) = true → PySem.W.CodeHd h c P ∧ h.get? P = some (PySem.W.tabObj #[])) (hfa : mg "law" = some (.ref fa))
    {f0 : Addr} {od0 an0 : Option Addr} {sl0 : Array (Option Value)} {oc0 kV0 dc0 pm0 cd0 ct0 : Value}
    {f1 : Addr} {od1 an1 : Option Addr} {sl1 : Array (Option Value)} {oc1 kV1 dc1 pm1 cd1 ct1 : Value}
    {f2 : Addr} {od2 an2 : Option Addr} {sl2 : Array (Option Value)} {oc2 kV2 dc2 pm2 cd2 ct2 : Value}
    {f3 : Addr} {od3 an3 : Option Addr} {sl3 : Array (Option Value)} {oc3 kV3 dc3 pm3 cd3 ct3 : Value}
    {f4 : Addr} {od4 an4 : Option Addr} {sl4 : Array (Option Value)} {oc4 kV4 dc4 pm4 cd4 ct4 : Value}
    {f5 : Addr} {od5 an5 : Option Addr} {sl5 : Array (Option Value)} {oc5 kV5 dc5 pm5 cd5 ct5 : Value}
    {f6 : Addr} {od6 an6 : Option Addr} {sl6 : Array (Option Value)} {oc6 kV6 dc6 pm6 cd6 ct6 : Value}
    {f7 : Addr} {od7 an7 : Option Addr} {sl7 : Array (Option Value)} {oc7 kV7 dc7 pm7 cd7 ct7 : Value}
    {f8 : Addr} {od8 an8 : Option Addr} {sl8 : Array (Option Value)} {oc8 kV8 dc8 pm8 cd8 ct8 : Value}
    {f9 : Addr} {od9 an9 : Option Addr} {sl9 : Array (Option Value)} {oc9 kV9 dc9 pm9 cd9 ct9 : Value}
    {f10 : Addr} {od10 an10 : Option Addr} {sl10 : Array (Option Value)} {oc10 kV10 dc10 pm10 cd10 ct10 : Value}
    {f11 : Addr} {od11 an11 : Option Addr} {sl11 : Array (Option Value)} {oc11 kV11 dc11 pm11 cd11 ct11 : Value}
    {f12 : Addr} {od12 an12 : Option Addr} {sl12 : Array (Option Value)} {oc12 kV12 dc12 pm12 cd12 ct12 : Value}
    {f13 : Addr} {od13 an13 : Option Addr} {sl13 : Array (Option Value)} {oc13 kV13 dc13 pm13 cd13 ct13 : Value}
    {f14 : Addr} {od14 an14 : Option Addr} {sl14 : Array (Option Value)} {oc14 kV14 dc14 pm14 cd14 ct14 : Value}
    {f15 : Addr} {od15 an15 : Option Addr} {sl15 : Array (Option Value)} {oc15 kV15 dc15 pm15 cd15 ct15 : Value}
    {f16 : Addr} {od16 an16 : Option Addr} {sl16 : Array (Option Value)} {oc16 kV16 dc16 pm16 cd16 ct16 : Value}
    {f17 : Addr} {od17 an17 : Option Addr} {sl17 : Array (Option Value)} {oc17 kV17 dc17 pm17 cd17 ct17 : Value}
    {f18 : Addr} {od18 an18 : Option Addr} {sl18 : Array (Option Value)} {oc18 kV18 dc18 pm18 cd18 ct18 : Value}
    {f19 : Addr} {od19 an19 : Option Addr} {sl19 : Array (Option Value)} {oc19 kV19 dc19 pm19 cd19 ct19 : Value}
    {f20 : Addr} {od20 an20 : Option Addr} {sl20 : Array (Option Value)} {oc20 kV20 dc20 pm20 cd20 ct20 : Value}
    {f21 : Addr} {od21 an21 : Option Addr} {sl21 : Array (Option Value)} {oc21 kV21 dc21 pm21 cd21 ct21 : Value}
    {f22 : Addr} {od22 an22 : Option Addr} {sl22 : Array (Option Value)} {oc22 kV22 dc22 pm22 cd22 ct22 : Value}
    {f23 : Addr} {od23 an23 : Option Addr} {sl23 : Array (Option Value)} {oc23 kV23 dc23 pm23 cd23 ct23 : Value}
    {f24 : Addr} {od24 an24 : Option Addr} {sl24 : Array (Option Value)} {oc24 kV24 dc24 pm24 cd24 ct24 : Value}
    {f25 : Addr} {od25 an25 : Option Addr} {sl25 : Array (Option Value)} {oc25 kV25 dc25 pm25 cd25 ct25 : Value}
    {f26 : Addr} {od26 an26 : Option Addr} {sl26 : Array (Option Value)} {oc26 kV26 dc26 pm26 cd26 ct26 : Value}
    {t0 : Tok}
    {t1 : Tok}
    {t2 : Tok}
    {t3 : Tok}
    {t4 : Tok}
    {C0 C1 C2 C3 fI cc cda : Addr}
    {nm0 qn0 : Str} {ns0 : Addr} {bs0 su0 : List Value} {sn0 : List Str} {ab0 : Bool} {co0 : Option Bool} {dd0 : Option Addr} {u00 u01 u02 u03 u05 : Option Value}
    {nm1 qn1 : Str} {ns1 : Addr} {bs1 su1 : List Value} {sn1 : List Str} {ab1 : Bool} {co1 : Option Bool} {dd1 : Option Addr} {u10 u11 u12 u13 u15 : Option Value}
    {nm2 qn2 : Str} {ns2 : Addr} {bs2 su2 : List Value} {sn2 : List Str} {ab2 : Bool} {co2 : Option Bool} {dd2 : Option Addr} {u20 u21 u22 u23 u25 : Option Value}
    {nm3 qn3 : Str} {ns3 : Addr} {bs3 su3 : List Value} {sn3 : List Str} {ab3 : Bool} {co3 : Option Bool} {dd3 : Option Addr} {u30 u31 u32 u33 u35 : Option Value}
    {jo jd jm jt : Value} {jp ja : Option Addr} {js jz : Array (Option Value)} {jv : Array Value} {jc : Value} {je : Option Addr} {jf : Str} {jk : Tok} {jl : Value} {jg : Option Addr} {jh : Array (Option Value)}
    (a0 : PySem.W.nsIn K mainGlobals "is_integer" = some (some (.ref f0)))
    (l0 : K.lookup f0 = some ⟨oc0, od0, .func (PySem.W.fnOf "is_integer" "is_integer" (L2.defArgs (top 6)) (defBody (top 6)) (defScope (top 6)) .none kV0 dc0 pm0 an0 cd0 ct0), sl0⟩)
    (c0 : PySem.W.codeIn K cd0 "is_integer" = true)
    (k0 : PySem.W.keepIn K (.ref f0) = true)
    (a1 : PySem.W.nsIn K mainGlobals "is_between" = some (some (.ref f1)))
    (l1 : K.lookup f1 = some ⟨oc1, od1, .func (PySem.W.fnOf "is_between" "is_between" (L2.defArgs (top 7)) (defBody (top 7)) (defScope (top 7)) .none kV1 dc1 pm1 an1 cd1 ct1), sl1⟩)
    (c1 : PySem.W.codeIn K cd1 "is_between" = true)
    (k1 : PySem.W.keepIn K (.ref f1) = true)
    (a2 : PySem.W.nsIn K mainGlobals "common" = some (some (.ref f2)))
    (l2 : K.lookup f2 = some ⟨oc2, od2, .func (PySem.W.fnOf "common" "common" (L2.defArgs (top 8)) (defBody (top 8)) (defScope (top 8)) .none kV2 dc2 pm2 an2 cd2 ct2), sl2⟩)
    (c2 : PySem.W.codeIn K cd2 "common" = true)
    (k2 : PySem.W.keepIn K (.ref f2) = true)
    (a3 : PySem.W.nsIn K mainGlobals "is_piece" = some (some (.ref f3)))
    (l3 : K.lookup f3 = some ⟨oc3, od3, .func (PySem.W.fnOf "is_piece" "is_piece" (L2.defArgs (top 15)) (defBody (top 15)) (defScope (top 15)) .none kV3 dc3 pm3 an3 cd3 ct3), sl3⟩)
    (c3 : PySem.W.codeIn K cd3 "is_piece" = true)
    (k3 : PySem.W.keepIn K (.ref f3) = true)
    (a4 : PySem.W.nsIn K mainGlobals "check_pieces" = some (some (.ref f4)))
    (l4 : K.lookup f4 = some ⟨oc4, od4, .func (PySem.W.fnOf "check_pieces" "check_pieces" (L2.defArgs (top 16)) (defBody (top 16)) (defScope (top 16)) .none kV4 dc4 pm4 an4 cd4 ct4), sl4⟩)
    (c4 : PySem.W.codeIn K cd4 "check_pieces" = true)
    (k4 : PySem.W.keepIn K (.ref f4) = true)
    (a5 : PySem.W.nsIn K mainGlobals "are_starts" = some (some (.ref f5)))
    (l5 : K.lookup f5 = some ⟨oc5, od5, .func (PySem.W.fnOf "are_starts" "are_starts" (L2.defArgs (top 17)) (defBody (top 17)) (defScope (top 17)) .none kV5 dc5 pm5 an5 cd5 ct5), sl5⟩)
    (c5 : PySem.W.codeIn K cd5 "are_starts" = true)
    (k5 : PySem.W.keepIn K (.ref f5) = true)
    (a6 : PySem.W.nsIn K mainGlobals "least_with" = some (some (.ref f6)))
    (l6 : K.lookup f6 = some ⟨oc6, od6, .func (PySem.W.fnOf "least_with" "least_with" (L2.defArgs (top 18)) (defBody (top 18)) (defScope (top 18)) .none kV6 dc6 pm6 an6 cd6 ct6), sl6⟩)
    (c6 : PySem.W.codeIn K cd6 "least_with" = true)
    (k6 : PySem.W.keepIn K (.ref f6) = true)
    (a7 : PySem.W.nsIn K mainGlobals "frames_of" = some (some (.ref f7)))
    (l7 : K.lookup f7 = some ⟨oc7, od7, .func (PySem.W.fnOf "frames_of" "frames_of" (L2.defArgs (top 19)) (defBody (top 19)) (defScope (top 19)) .none kV7 dc7 pm7 an7 cd7 ct7), sl7⟩)
    (c7 : PySem.W.codeIn K cd7 "frames_of" = true)
    (k7 : PySem.W.keepIn K (.ref f7) = true)
    (a8 : PySem.W.nsIn K mainGlobals "frames" = some (some (.ref f8)))
    (l8 : K.lookup f8 = some ⟨oc8, od8, .func (PySem.W.fnOf "frames" "frames" (L2.defArgs (top 20)) (defBody (top 20)) (defScope (top 20)) .none kV8 dc8 pm8 an8 cd8 ct8), sl8⟩)
    (c8 : PySem.W.codeIn K cd8 "frames" = true)
    (k8 : PySem.W.keepIn K (.ref f8) = true)
    (a9 : PySem.W.nsIn K mainGlobals "do_clash" = some (some (.ref f9)))
    (l9 : K.lookup f9 = some ⟨oc9, od9, .func (PySem.W.fnOf "do_clash" "do_clash" (L2.defArgs (top 21)) (defBody (top 21)) (defScope (top 21)) .none kV9 dc9 pm9 an9 cd9 ct9), sl9⟩)
    (c9 : PySem.W.codeIn K cd9 "do_clash" = true)
    (k9 : PySem.W.keepIn K (.ref f9) = true)
    (a10 : PySem.W.nsIn K mainGlobals "is_at_work" = some (some (.ref f10)))
    (l10 : K.lookup f10 = some ⟨oc10, od10, .func (PySem.W.fnOf "is_at_work" "is_at_work" (L2.defArgs (top 22)) (defBody (top 22)) (defScope (top 22)) .none kV10 dc10 pm10 an10 cd10 ct10), sl10⟩)
    (c10 : PySem.W.codeIn K cd10 "is_at_work" = true)
    (k10 : PySem.W.keepIn K (.ref f10) = true)
    (a11 : PySem.W.nsIn K mainGlobals "first_minute" = some (some (.ref f11)))
    (l11 : K.lookup f11 = some ⟨oc11, od11, .func (PySem.W.fnOf "first_minute" "first_minute" (L2.defArgs (top 23)) (defBody (top 23)) (defScope (top 23)) .none kV11 dc11 pm11 an11 cd11 ct11), sl11⟩)
    (c11 : PySem.W.codeIn K cd11 "first_minute" = true)
    (k11 : PySem.W.keepIn K (.ref f11) = true)
    (a12 : PySem.W.nsIn K mainGlobals "clash" = some (some (.ref f12)))
    (l12 : K.lookup f12 = some ⟨oc12, od12, .func (PySem.W.fnOf "clash" "clash" (L2.defArgs (top 24)) (defBody (top 24)) (defScope (top 24)) .none kV12 dc12 pm12 an12 cd12 ct12), sl12⟩)
    (c12 : PySem.W.codeIn K cd12 "clash" = true)
    (k12 : PySem.W.keepIn K (.ref f12) = true)
    (a13 : PySem.W.nsIn K mainGlobals "check_tried" = some (some (.ref f13)))
    (l13 : K.lookup f13 = some ⟨oc13, od13, .func (PySem.W.fnOf "check_tried" "check_tried" (L2.defArgs (top 25)) (defBody (top 25)) (defScope (top 25)) .none kV13 dc13 pm13 an13 cd13 ct13), sl13⟩)
    (c13 : PySem.W.codeIn K cd13 "check_tried" = true)
    (k13 : PySem.W.keepIn K (.ref f13) = true)
    (a14 : PySem.W.nsIn K mainGlobals "clashing" = some (some (.ref f14)))
    (l14 : K.lookup f14 = some ⟨oc14, od14, .func (PySem.W.fnOf "clashing" "clashing" (L2.defArgs (top 26)) (defBody (top 26)) (defScope (top 26)) .none kV14 dc14 pm14 an14 cd14 ct14), sl14⟩)
    (c14 : PySem.W.codeIn K cd14 "clashing" = true)
    (k14 : PySem.W.keepIn K (.ref f14) = true)
    (a15 : PySem.W.nsIn K mainGlobals "placing" = some (some (.ref f15)))
    (l15 : K.lookup f15 = some ⟨oc15, od15, .func (PySem.W.fnOf "placing" "placing" (L2.defArgs (top 27)) (defBody (top 27)) (defScope (top 27)) .none kV15 dc15 pm15 an15 cd15 ct15), sl15⟩)
    (c15 : PySem.W.codeIn K cd15 "placing" = true)
    (k15 : PySem.W.keepIn K (.ref f15) = true)
    (a16 : PySem.W.nsIn K mainGlobals "is_case" = some (some (.ref f16)))
    (l16 : K.lookup f16 = some ⟨oc16, od16, .func (PySem.W.fnOf "is_case" "is_case" (L2.defArgs (top 28)) (defBody (top 28)) (defScope (top 28)) .none kV16 dc16 pm16 an16 cd16 ct16), sl16⟩)
    (c16 : PySem.W.codeIn K cd16 "is_case" = true)
    (k16 : PySem.W.keepIn K (.ref f16) = true)
    (a17 : PySem.W.nsIn K mainGlobals "are_cases" = some (some (.ref f17)))
    (l17 : K.lookup f17 = some ⟨oc17, od17, .func (PySem.W.fnOf "are_cases" "are_cases" (L2.defArgs (top 29)) (defBody (top 29)) (defScope (top 29)) .none kV17 dc17 pm17 an17 cd17 ct17), sl17⟩)
    (c17 : PySem.W.codeIn K cd17 "are_cases" = true)
    (k17 : PySem.W.keepIn K (.ref f17) = true)
    (a18 : PySem.W.nsIn K mainGlobals "shows_placing" = some (some (.ref f18)))
    (l18 : K.lookup f18 = some ⟨oc18, od18, .func (PySem.W.fnOf "shows_placing" "shows_placing" (L2.defArgs (top 30)) (defBody (top 30)) (defScope (top 30)) .none kV18 dc18 pm18 an18 cd18 ct18), sl18⟩)
    (c18 : PySem.W.codeIn K cd18 "shows_placing" = true)
    (k18 : PySem.W.keepIn K (.ref f18) = true)
    (a19 : PySem.W.nsIn K mainGlobals "_law_pot" = some (some (.ref f19)))
    (l19 : K.lookup f19 = some ⟨oc19, od19, .func (PySem.W.fnOf "_law_pot" "_law_pot" (L2.defArgs (top 32)) (defBody (top 32)) (defScope (top 32)) .none kV19 dc19 pm19 an19 cd19 ct19), sl19⟩)
    (c19 : PySem.W.codeIn K cd19 "_law_pot" = true)
    (k19 : PySem.W.keepIn K (.ref f19) = true)
    (a20 : PySem.W.nsIn K mainGlobals "_law_take" = some (some (.ref f20)))
    (l20 : K.lookup f20 = some ⟨oc20, od20, .func (PySem.W.fnOf "_law_take" "_law_take" (L2.defArgs (top 33)) (defBody (top 33)) (defScope (top 33)) .none kV20 dc20 pm20 an20 cd20 ct20), sl20⟩)
    (c20 : PySem.W.codeIn K cd20 "_law_take" = true)
    (k20 : PySem.W.keepIn K (.ref f20) = true)
    (a21 : PySem.W.nsIn K mainGlobals "_law_cells" = some (some (.ref f21)))
    (l21 : K.lookup f21 = some ⟨oc21, od21, .func (PySem.W.fnOf "_law_cells" "_law_cells" (L2.defArgs (top 34)) (defBody (top 34)) (defScope (top 34)) .none kV21 dc21 pm21 an21 cd21 ct21), sl21⟩)
    (c21 : PySem.W.codeIn K cd21 "_law_cells" = true)
    (k21 : PySem.W.keepIn K (.ref f21) = true)
    (a22 : PySem.W.nsIn K mainGlobals "_law_some" = some (some (.ref f22)))
    (l22 : K.lookup f22 = some ⟨oc22, od22, .func (PySem.W.fnOf "_law_some" "_law_some" (L2.defArgs (top 35)) (defBody (top 35)) (defScope (top 35)) .none kV22 dc22 pm22 an22 cd22 ct22), sl22⟩)
    (c22 : PySem.W.codeIn K cd22 "_law_some" = true)
    (k22 : PySem.W.keepIn K (.ref f22) = true)
    (a23 : PySem.W.nsIn K mainGlobals "_law_is_free" = some (some (.ref f23)))
    (l23 : K.lookup f23 = some ⟨oc23, od23, .func (PySem.W.fnOf "_law_is_free" "_law_is_free" (L2.defArgs (top 36)) (defBody (top 36)) (defScope (top 36)) .none kV23 dc23 pm23 an23 cd23 ct23), sl23⟩)
    (c23 : PySem.W.codeIn K cd23 "_law_is_free" = true)
    (k23 : PySem.W.keepIn K (.ref f23) = true)
    (a24 : PySem.W.nsIn K mainGlobals "_law_right" = some (some (.ref f24)))
    (l24 : K.lookup f24 = some ⟨oc24, od24, .func (PySem.W.fnOf "_law_right" "_law_right" (L2.defArgs (top 37)) (defBody (top 37)) (defScope (top 37)) .none kV24 dc24 pm24 an24 cd24 ct24), sl24⟩)
    (c24 : PySem.W.codeIn K cd24 "_law_right" = true)
    (k24 : PySem.W.keepIn K (.ref f24) = true)
    (a25 : PySem.W.nsIn K mainGlobals "_law_is_full_right" = some (some (.ref f25)))
    (l25 : K.lookup f25 = some ⟨oc25, od25, .func (PySem.W.fnOf "_law_is_full_right" "_law_is_full_right" (L2.defArgs (top 38)) (defBody (top 38)) (defScope (top 38)) .none kV25 dc25 pm25 an25 cd25 ct25), sl25⟩)
    (c25 : PySem.W.codeIn K cd25 "_law_is_full_right" = true)
    (k25 : PySem.W.keepIn K (.ref f25) = true)
    (a26 : PySem.W.nsIn K mainGlobals "law" = some (some (.ref f26)))
    (l26 : K.lookup f26 = some ⟨oc26, od26, .func (PySem.W.fnOf "law" "law" (L2.defArgs (top 39)) (defBody (top 39)) (defScope (top 39)) .none kV26 dc26 pm26 an26 cd26 ct26), sl26⟩)
    (c26 : PySem.W.codeIn K cd26 "law" = true)
    (k26 : PySem.W.keepIn K (.ref f26) = true)
    (z0 : PySem.W.nsIn K mainGlobals "len" = some none)
    (z1 : PySem.W.nsIn K mainGlobals "abs" = some none)
    (z2 : PySem.W.nsIn K mainGlobals "sum" = some none)
    (z3 : PySem.W.nsIn K mainGlobals "all" = some none)
    (z4 : PySem.W.nsIn K mainGlobals "any" = some none)
    (z5 : PySem.W.nsIn K mainGlobals "min" = some none)
    (z6 : PySem.W.nsIn K mainGlobals "max" = some none)
    (z7 : PySem.W.nsIn K mainGlobals "int" = some none)
    (z8 : PySem.W.nsIn K mainGlobals "bool" = some none)
    (z9 : PySem.W.nsIn K mainGlobals "str" = some none)
    (z10 : PySem.W.nsIn K mainGlobals "tuple" = some none)
    (z11 : PySem.W.nsIn K mainGlobals "list" = some none)
    (z12 : PySem.W.nsIn K mainGlobals "dict" = some none)
    (z13 : PySem.W.nsIn K mainGlobals "repr" = some none)
    (z14 : PySem.W.nsIn K mainGlobals "sorted" = some none)
    (z15 : PySem.W.nsIn K mainGlobals "isinstance" = some none)
    (z16 : PySem.W.nsIn K mainGlobals "range" = some none)
    (z17 : PySem.W.nsIn K mainGlobals "enumerate" = some none)
    (z18 : PySem.W.nsIn K mainGlobals "zip" = some none)
    (z19 : PySem.W.nsIn K mainGlobals "ValueError" = some none)
    (z20 : PySem.W.nsIn K mainGlobals "set" = some none)
    (q0 : PySem.W.nsIn K mainGlobals "STARTS" = some (some (.str "starts" t0)))
    (q1 : PySem.W.nsIn K mainGlobals "CASES" = some (some (.str "cases" t1)))
    (q2 : PySem.W.nsIn K mainGlobals "MOST_PIECES" = some (some (.int 5 t2)))
    (q3 : PySem.W.nsIn K mainGlobals "MOST_EVERY" = some (some (.int 1440 t3)))
    (q4 : PySem.W.nsIn K mainGlobals "MOST_TRIED" = some (some (.int 20000 t4)))
    (e0a : PySem.W.nsIn K mainGlobals "JobError" = some (some (.ref C0)))
    (e1a : PySem.W.nsIn K mainGlobals "BadPieces" = some (some (.ref C1)))
    (e2a : PySem.W.nsIn K mainGlobals "BadStarts" = some (some (.ref C2)))
    (e3a : PySem.W.nsIn K mainGlobals "TooMany" = some (some (.ref C3)))
    (e0x : K.lookup C0 = some (PySem.excClassObj nm0 qn0 C0 ns0 bs0 [.type "ValueError", .type "Exception", .type "BaseException", .type "object"] true sn0 su0 ab0 co0 dd0 u00 u01 u02 u03 u05 "ValueError.__new__"))
    (e0g : PySem.W.findIn K (.ref C0) "__getattribute__" = some (some (.builtin "BaseException.__getattribute__")))
    (e0h : PySem.W.findIn K (.ref C0) "__getattr__" = some none)
    (e0b : PySem.W.subIn K (.ref C0) (.type "BaseException") = some true)
    (e0d : PySem.W.hasDictIn K C0 = true)
    (e0c : PySem.W.findIn K (.ref C0) "__class__" = some (some (.builtin "object.__class__")))
    (e0m : PySem.W.mroIn K C0 (.type "object") = some true)
    (e0n : PySem.W.findIn K (.ref C0) "value" = some none)
    (e0s : PySem.W.findIn K (.ref C0) "__setattr__" = some (some (.builtin "object.__setattr__")))
    (e0i : PySem.W.findIn K (.ref C0) "__init__" = some (some (.ref fI)))
    (e0k : PySem.W.keepIn K (.ref C0) = true)
    (e0t : PySem.W.typeIn K (.ref C0) = some (.type "type"))
    (e0u : PySem.W.mroIn K C0 (.ref C0) = some true)
    (e0w : PySem.W.ks_superIn K C0 C0 "__init__" = some (some (.builtin "ValueError.__init__")))
    (e0v : PySem.W.subIn K (.ref C0) (.type "ValueError") = some true)
    (e0q : PySem.W.excInitIn K C0 veBases "ValueError.__new__" = true)
    (e0y : PySem.W.kitOne K (.ref C0) (.type "ValueError") = some true)
    (e0A0 : PySem.W.kitOne K (.ref C0) (.ref C0) = some true)
    (e0B0 : PySem.W.exmOne K (.ref C0) (.ref C0) = some true)
    (e0A1 : PySem.W.kitOne K (.ref C0) (.ref C1) = some false)
    (e0B1 : PySem.W.exmOne K (.ref C0) (.ref C1) = some false)
    (e0A2 : PySem.W.kitOne K (.ref C0) (.ref C2) = some false)
    (e0B2 : PySem.W.exmOne K (.ref C0) (.ref C2) = some false)
    (e0A3 : PySem.W.kitOne K (.ref C0) (.ref C3) = some false)
    (e0B3 : PySem.W.exmOne K (.ref C0) (.ref C3) = some false)
    (e0P0 : PySem.W.kitOne K (.type "NoneType") (.ref C0) = some false)
    (e0P1 : PySem.W.kitOne K (.type "bool") (.ref C0) = some false)
    (e0P2 : PySem.W.kitOne K (.type "int") (.ref C0) = some false)
    (e0P3 : PySem.W.kitOne K (.type "str") (.ref C0) = some false)
    (e0P4 : PySem.W.kitOne K (.type "tuple") (.ref C0) = some false)
    (e0P5 : PySem.W.kitOne K (.type "list") (.ref C0) = some false)
    (e0P6 : PySem.W.kitOne K (.type "dict") (.ref C0) = some false)
    (e1x : K.lookup C1 = some (PySem.excClassObj nm1 qn1 C1 ns1 bs1 [.ref C0, .type "ValueError", .type "Exception", .type "BaseException", .type "object"] true sn1 su1 ab1 co1 dd1 u10 u11 u12 u13 u15 "ValueError.__new__"))
    (e1g : PySem.W.findIn K (.ref C1) "__getattribute__" = some (some (.builtin "BaseException.__getattribute__")))
    (e1h : PySem.W.findIn K (.ref C1) "__getattr__" = some none)
    (e1b : PySem.W.subIn K (.ref C1) (.type "BaseException") = some true)
    (e1d : PySem.W.hasDictIn K C1 = true)
    (e1c : PySem.W.findIn K (.ref C1) "__class__" = some (some (.builtin "object.__class__")))
    (e1m : PySem.W.mroIn K C1 (.type "object") = some true)
    (e1n : PySem.W.findIn K (.ref C1) "value" = some none)
    (e1s : PySem.W.findIn K (.ref C1) "__setattr__" = some (some (.builtin "object.__setattr__")))
    (e1i : PySem.W.findIn K (.ref C1) "__init__" = some (some (.ref fI)))
    (e1k : PySem.W.keepIn K (.ref C1) = true)
    (e1t : PySem.W.typeIn K (.ref C1) = some (.type "type"))
    (e1u : PySem.W.mroIn K C1 (.ref C0) = some true)
    (e1w : PySem.W.ks_superIn K C1 C0 "__init__" = some (some (.builtin "ValueError.__init__")))
    (e1v : PySem.W.subIn K (.ref C1) (.type "ValueError") = some true)
    (e1q : PySem.W.excInitIn K C1 veBases "ValueError.__new__" = true)
    (e1y : PySem.W.kitOne K (.ref C1) (.type "ValueError") = some true)
    (e1A0 : PySem.W.kitOne K (.ref C1) (.ref C0) = some true)
    (e1B0 : PySem.W.exmOne K (.ref C1) (.ref C0) = some true)
    (e1A1 : PySem.W.kitOne K (.ref C1) (.ref C1) = some true)
    (e1B1 : PySem.W.exmOne K (.ref C1) (.ref C1) = some true)
    (e1A2 : PySem.W.kitOne K (.ref C1) (.ref C2) = some false)
    (e1B2 : PySem.W.exmOne K (.ref C1) (.ref C2) = some false)
    (e1A3 : PySem.W.kitOne K (.ref C1) (.ref C3) = some false)
    (e1B3 : PySem.W.exmOne K (.ref C1) (.ref C3) = some false)
    (e1P0 : PySem.W.kitOne K (.type "NoneType") (.ref C1) = some false)
    (e1P1 : PySem.W.kitOne K (.type "bool") (.ref C1) = some false)
    (e1P2 : PySem.W.kitOne K (.type "int") (.ref C1) = some false)
    (e1P3 : PySem.W.kitOne K (.type "str") (.ref C1) = some false)
    (e1P4 : PySem.W.kitOne K (.type "tuple") (.ref C1) = some false)
    (e1P5 : PySem.W.kitOne K (.type "list") (.ref C1) = some false)
    (e1P6 : PySem.W.kitOne K (.type "dict") (.ref C1) = some false)
    (e2x : K.lookup C2 = some (PySem.excClassObj nm2 qn2 C2 ns2 bs2 [.ref C0, .type "ValueError", .type "Exception", .type "BaseException", .type "object"] true sn2 su2 ab2 co2 dd2 u20 u21 u22 u23 u25 "ValueError.__new__"))
    (e2g : PySem.W.findIn K (.ref C2) "__getattribute__" = some (some (.builtin "BaseException.__getattribute__")))
    (e2h : PySem.W.findIn K (.ref C2) "__getattr__" = some none)
    (e2b : PySem.W.subIn K (.ref C2) (.type "BaseException") = some true)
    (e2d : PySem.W.hasDictIn K C2 = true)
    (e2c : PySem.W.findIn K (.ref C2) "__class__" = some (some (.builtin "object.__class__")))
    (e2m : PySem.W.mroIn K C2 (.type "object") = some true)
    (e2n : PySem.W.findIn K (.ref C2) "value" = some none)
    (e2s : PySem.W.findIn K (.ref C2) "__setattr__" = some (some (.builtin "object.__setattr__")))
    (e2i : PySem.W.findIn K (.ref C2) "__init__" = some (some (.ref fI)))
    (e2k : PySem.W.keepIn K (.ref C2) = true)
    (e2t : PySem.W.typeIn K (.ref C2) = some (.type "type"))
    (e2u : PySem.W.mroIn K C2 (.ref C0) = some true)
    (e2w : PySem.W.ks_superIn K C2 C0 "__init__" = some (some (.builtin "ValueError.__init__")))
    (e2v : PySem.W.subIn K (.ref C2) (.type "ValueError") = some true)
    (e2q : PySem.W.excInitIn K C2 veBases "ValueError.__new__" = true)
    (e2y : PySem.W.kitOne K (.ref C2) (.type "ValueError") = some true)
    (e2A0 : PySem.W.kitOne K (.ref C2) (.ref C0) = some true)
    (e2B0 : PySem.W.exmOne K (.ref C2) (.ref C0) = some true)
    (e2A1 : PySem.W.kitOne K (.ref C2) (.ref C1) = some false)
    (e2B1 : PySem.W.exmOne K (.ref C2) (.ref C1) = some false)
    (e2A2 : PySem.W.kitOne K (.ref C2) (.ref C2) = some true)
    (e2B2 : PySem.W.exmOne K (.ref C2) (.ref C2) = some true)
    (e2A3 : PySem.W.kitOne K (.ref C2) (.ref C3) = some false)
    (e2B3 : PySem.W.exmOne K (.ref C2) (.ref C3) = some false)
    (e2P0 : PySem.W.kitOne K (.type "NoneType") (.ref C2) = some false)
    (e2P1 : PySem.W.kitOne K (.type "bool") (.ref C2) = some false)
    (e2P2 : PySem.W.kitOne K (.type "int") (.ref C2) = some false)
    (e2P3 : PySem.W.kitOne K (.type "str") (.ref C2) = some false)
    (e2P4 : PySem.W.kitOne K (.type "tuple") (.ref C2) = some false)
    (e2P5 : PySem.W.kitOne K (.type "list") (.ref C2) = some false)
    (e2P6 : PySem.W.kitOne K (.type "dict") (.ref C2) = some false)
    (e3x : K.lookup C3 = some (PySem.excClassObj nm3 qn3 C3 ns3 bs3 [.ref C0, .type "ValueError", .type "Exception", .type "BaseException", .type "object"] true sn3 su3 ab3 co3 dd3 u30 u31 u32 u33 u35 "ValueError.__new__"))
    (e3g : PySem.W.findIn K (.ref C3) "__getattribute__" = some (some (.builtin "BaseException.__getattribute__")))
    (e3h : PySem.W.findIn K (.ref C3) "__getattr__" = some none)
    (e3b : PySem.W.subIn K (.ref C3) (.type "BaseException") = some true)
    (e3d : PySem.W.hasDictIn K C3 = true)
    (e3c : PySem.W.findIn K (.ref C3) "__class__" = some (some (.builtin "object.__class__")))
    (e3m : PySem.W.mroIn K C3 (.type "object") = some true)
    (e3n : PySem.W.findIn K (.ref C3) "value" = some none)
    (e3s : PySem.W.findIn K (.ref C3) "__setattr__" = some (some (.builtin "object.__setattr__")))
    (e3i : PySem.W.findIn K (.ref C3) "__init__" = some (some (.ref fI)))
    (e3k : PySem.W.keepIn K (.ref C3) = true)
    (e3t : PySem.W.typeIn K (.ref C3) = some (.type "type"))
    (e3u : PySem.W.mroIn K C3 (.ref C0) = some true)
    (e3w : PySem.W.ks_superIn K C3 C0 "__init__" = some (some (.builtin "ValueError.__init__")))
    (e3v : PySem.W.subIn K (.ref C3) (.type "ValueError") = some true)
    (e3q : PySem.W.excInitIn K C3 veBases "ValueError.__new__" = true)
    (e3y : PySem.W.kitOne K (.ref C3) (.type "ValueError") = some true)
    (e3A0 : PySem.W.kitOne K (.ref C3) (.ref C0) = some true)
    (e3B0 : PySem.W.exmOne K (.ref C3) (.ref C0) = some true)
    (e3A1 : PySem.W.kitOne K (.ref C3) (.ref C1) = some false)
    (e3B1 : PySem.W.exmOne K (.ref C3) (.ref C1) = some false)
    (e3A2 : PySem.W.kitOne K (.ref C3) (.ref C2) = some false)
    (e3B2 : PySem.W.exmOne K (.ref C3) (.ref C2) = some false)
    (e3A3 : PySem.W.kitOne K (.ref C3) (.ref C3) = some true)
    (e3B3 : PySem.W.exmOne K (.ref C3) (.ref C3) = some true)
    (e3P0 : PySem.W.kitOne K (.type "NoneType") (.ref C3) = some false)
    (e3P1 : PySem.W.kitOne K (.type "bool") (.ref C3) = some false)
    (e3P2 : PySem.W.kitOne K (.type "int") (.ref C3) = some false)
    (e3P3 : PySem.W.kitOne K (.type "str") (.ref C3) = some false)
    (e3P4 : PySem.W.kitOne K (.type "tuple") (.ref C3) = some false)
    (e3P5 : PySem.W.kitOne K (.type "list") (.ref C3) = some false)
    (e3P6 : PySem.W.kitOne K (.type "dict") (.ref C3) = some false)
    (j1 : PySem.W.specialIn K (.builtin "object.__class__") "__get__" = some (some (.builtin "getset_descriptor.__get__")))
    (j2 : PySem.W.takesIn K (.builtin "object.__class__") = some true)
    (j3 : PySem.W.typeIn K (.ref fI) = some (.type "function"))
    (j4 : K.lookup fI = some ⟨jo, jp, .func (PySem.W.ksFn "__init__" "JobError.__init__" (L2.defArgs (inner (top 1))) (defBody (inner (top 1))) (defScope (inner (top 1))) .none .none jd jm ja (.ref cda) jt cc), js⟩)
    (j5 : PySem.W.codeIn K (.ref cda) "JobError.__init__" = true)
    (j6 : K.lookup cda = some ⟨jc, je, .fields jv, jz⟩)
    (j7 : jv[2]? = some (.str jf jk))
    (j8 : ((pw.main.file : Str) == jf) = true)
    (j9 : K.lookup cc = some ⟨jl, jg, .cell (some (.ref C0)), jh⟩)
    (j10 : PySem.W.isClsIn K C0 = true)
    (j11 : PySem.W.nsIn K mainGlobals "super" = some none)
    (j13 : PySem.W.nsIn K cStatics "thirdparty.any" = some none)
    : ∃ (fd : FuncData) (sp : L2.Sp) (cs : List (Addr × Addr)), (∀ (s : Shared) (u : Value), BindsTo s fd ⟨[u], []⟩ [("script", u)]) ∧ (∀ p ∈ cs, PySem.W.CodeHd h p.1 p.2 ∧ h.get? p.2 = some (PySem.W.tabObj #[]) ∧ K.lookup p.2 = none) ∧
      (∀ base : Heap, K.In base → base.Ns mainGlobals mg → (∀ p ∈ cs, LamX.TabB base mg p.1 p.2) → FnG pw w K mg base 27 fa fd ["script"] sp) ∧
      ∀ (H : L2.Hp) (a : Addr) (ns : List Int), ns.length ≤ 63 → OnlyT cs H → L2.SqL K H a (ns.map L2.V.int) → sp [.ref a] H (fun v _ => v = .bl true) fun _ _ _ => False := by
  have e := hfa.symm.trans (PySem.W.mg_of X G a26)
  cases e
  obtain ⟨cad, hcad⟩ : ∃ cad : Cad, cad = ⟨fun c => [C0, C1, C2, C3].getD c C0, []⟩ := ⟨_, rfl⟩
  have F0 := L2.fun_mk (st := (top 6)) l0 c0 k0
  have b0 := F0.binds (ps := ["value"]) fun _ _ _ _ _ _ us hl => match us, hl with | [_], _ => rfl
  have F1 := L2.fun_mk (st := (top 7)) l1 c1 k1
  have b1 := F1.binds (ps := ["value", "least", "most"]) fun _ _ _ _ _ _ us hl => match us, hl with | [_, _, _], _ => rfl
  have F2 := L2.fun_mk (st := (top 8)) l2 c2 k2
  have b2 := F2.binds (ps := ["one", "other"]) fun _ _ _ _ _ _ us hl => match us, hl with | [_, _], _ => rfl
  have F3 := L2.fun_mk (st := (top 15)) l3 c3 k3
  have b3 := F3.binds (ps := ["value"]) fun _ _ _ _ _ _ us hl => match us, hl with | [_], _ => rfl
  have F4 := L2.fun_mk (st := (top 16)) l4 c4 k4
  have b4 := F4.binds (ps := ["pieces"]) fun _ _ _ _ _ _ us hl => match us, hl with | [_], _ => rfl
  have F5 := L2.fun_mk (st := (top 17)) l5 c5 k5
  have b5 := F5.binds (ps := ["pieces", "value"]) fun _ _ _ _ _ _ us hl => match us, hl with | [_, _], _ => rfl
  have F6 := L2.fun_mk (st := (top 18)) l6 c6 k6
  have b6 := F6.binds (ps := ["one", "other"]) fun _ _ _ _ _ _ us hl => match us, hl with | [_, _], _ => rfl
  have F7 := L2.fun_mk (st := (top 19)) l7 c7 k7
  have b7 := F7.binds (ps := ["pieces"]) fun _ _ _ _ _ _ us hl => match us, hl with | [_], _ => rfl
  have F8 := L2.fun_mk (st := (top 20)) l8 c8 k8
  have b8 := F8.binds (ps := ["pieces"]) fun _ _ _ _ _ _ us hl => match us, hl with | [_], _ => rfl
  have F9 := L2.fun_mk (st := (top 21)) l9 c9 k9
  have b9 := F9.binds (ps := ["one", "start", "other", "begin"]) fun _ _ _ _ _ _ us hl => match us, hl with | [_, _, _, _], _ => rfl
  have F10 := L2.fun_mk (st := (top 22)) l10 c10 k10
  have b10 := F10.binds (ps := ["piece", "start", "minute"]) fun _ _ _ _ _ _ us hl => match us, hl with | [_, _, _], _ => rfl
  have F11 := L2.fun_mk (st := (top 23)) l11 c11 k11
  have b11 := F11.binds (ps := ["one", "start", "other", "begin"]) fun _ _ _ _ _ _ us hl => match us, hl with | [_, _, _, _], _ => rfl
  have F12 := L2.fun_mk (st := (top 24)) l12 c12 k12
  have b12 := F12.binds (ps := ["pieces", "starts"]) fun _ _ _ _ _ _ us hl => match us, hl with | [_, _], _ => rfl
  have F13 := L2.fun_mk (st := (top 25)) l13 c13 k13
  have b13 := F13.binds (ps := ["pieces"]) fun _ _ _ _ _ _ us hl => match us, hl with | [_], _ => rfl
  have F14 := L2.fun_mk (st := (top 26)) l14 c14 k14
  have b14 := F14.binds (ps := ["pieces", "begun"]) fun _ _ _ _ _ _ us hl => match us, hl with | [_, _], _ => rfl
  have F15 := L2.fun_mk (st := (top 27)) l15 c15 k15
  have b15 := F15.binds (ps := ["pieces"]) fun _ _ _ _ _ _ us hl => match us, hl with | [_], _ => rfl
  have F16 := L2.fun_mk (st := (top 28)) l16 c16 k16
  have b16 := F16.binds (ps := ["pieces", "sizes", "value"]) fun _ _ _ _ _ _ us hl => match us, hl with | [_, _, _], _ => rfl
  have F17 := L2.fun_mk (st := (top 29)) l17 c17 k17
  have b17 := F17.binds (ps := ["pieces", "value"]) fun _ _ _ _ _ _ us hl => match us, hl with | [_, _], _ => rfl
  have F18 := L2.fun_mk (st := (top 30)) l18 c18 k18
  have b18 := F18.binds (ps := ["pieces", "value"]) fun _ _ _ _ _ _ us hl => match us, hl with | [_, _], _ => rfl
  have F19 := L2.fun_mk (st := (top 32)) l19 c19 k19
  have b19 := F19.binds (ps := ["script", "place"]) fun _ _ _ _ _ _ us hl => match us, hl with | [_, _], _ => rfl
  have F20 := L2.fun_mk (st := (top 33)) l20 c20 k20
  have b20 := F20.binds (ps := ["pot", "upto"]) fun _ _ _ _ _ _ us hl => match us, hl with | [_, _], _ => rfl
  have F21 := L2.fun_mk (st := (top 34)) l21 c21 k21
  have b21 := F21.binds (ps := ["script", "most"]) fun _ _ _ _ _ _ us hl => match us, hl with | [_, _], _ => rfl
  have F22 := L2.fun_mk (st := (top 35)) l22 c22 k22
  have b22 := F22.binds (ps := ["pot", "pool", "many"]) fun _ _ _ _ _ _ us hl => match us, hl with | [_, _, _], _ => rfl
  have F23 := L2.fun_mk (st := (top 36)) l23 c23 k23
  have b23 := F23.binds (ps := ["pieces", "told"]) fun _ _ _ _ _ _ us hl => match us, hl with | [_, _], _ => rfl
  have F24 := L2.fun_mk (st := (top 37)) l24 c24 k24
  have b24 := F24.binds (ps := ["pot"]) fun _ _ _ _ _ _ us hl => match us, hl with | [_], _ => rfl
  have F25 := L2.fun_mk (st := (top 38)) l25 c25 k25
  have b25 := F25.binds (ps := ["pot"]) fun _ _ _ _ _ _ us hl => match us, hl with | [_], _ => rfl
  have F26 := L2.fun_mk (st := (top 39)) l26 c26 k26
  have b26 := F26.binds (ps := ["script"]) fun _ _ _ _ _ _ us hl => match us, hl with | [_], _ => rfl
  have hbi : ∀ n ∈ biNames, mg n = none := List.forall_mem_cons.mpr ⟨PySem.W.mg_none_of X G z0, List.forall_mem_cons.mpr ⟨PySem.W.mg_none_of X G z1, List.forall_mem_cons.mpr ⟨PySem.W.mg_none_of X G z2, List.forall_mem_cons.mpr ⟨PySem.W.mg_none_of X G z3, List.forall_mem_cons.mpr ⟨PySem.W.mg_none_of X G z4, List.forall_mem_cons.mpr ⟨PySem.W.mg_none_of X G z5, List.forall_mem_cons.mpr ⟨PySem.W.mg_none_of X G z6, List.forall_mem_cons.mpr ⟨PySem.W.mg_none_of X G z7, List.forall_mem_cons.mpr ⟨PySem.W.mg_none_of X G z8, List.forall_mem_cons.mpr ⟨PySem.W.mg_none_of X G z9, List.forall_mem_cons.mpr ⟨PySem.W.mg_none_of X G z10, List.forall_mem_cons.mpr ⟨PySem.W.mg_none_of X G z11, List.forall_mem_cons.mpr ⟨PySem.W.mg_none_of X G z12, List.forall_mem_cons.mpr ⟨PySem.W.mg_none_of X G z13, List.forall_mem_cons.mpr ⟨PySem.W.mg_none_of X G z14, List.forall_mem_cons.mpr ⟨PySem.W.mg_none_of X G z15, List.forall_mem_cons.mpr ⟨PySem.W.mg_none_of X G z16, List.forall_mem_cons.mpr ⟨PySem.W.mg_none_of X G z17, List.forall_mem_cons.mpr ⟨PySem.W.mg_none_of X G z18, List.forall_mem_cons.mpr ⟨PySem.W.mg_none_of X G z19, List.forall_mem_cons.mpr ⟨PySem.W.mg_none_of X G z20, fun _ h => (List.not_mem_nil h).elim⟩⟩⟩⟩⟩⟩⟩⟩⟩⟩⟩⟩⟩⟩⟩⟩⟩⟩⟩⟩⟩
  have x0 : ExcK K C0 := ⟨e0g, e0h, e0b, e0d, e0c, j1, j2, e0m, e0n⟩
  have y0 : CFacts pw K "JobError" C0 C0 fI cc cda _ := ⟨e0a, ⟨_, _, _, _, _, _, _, _, _, _, _, _, _, _, e0x⟩, rfl, x0, e0s, e0i, j3, e0k, e0t, e0u, e0w, e0v, e0q⟩
  have x1 : ExcK K C1 := ⟨e1g, e1h, e1b, e1d, e1c, j1, j2, e1m, e1n⟩
  have y1 : CFacts pw K "BadPieces" C1 C0 fI cc cda _ := ⟨e1a, ⟨_, _, _, _, _, _, _, _, _, _, _, _, _, _, e1x⟩, rfl, x1, e1s, e1i, j3, e1k, e1t, e1u, e1w, e1v, e1q⟩
  have x2 : ExcK K C2 := ⟨e2g, e2h, e2b, e2d, e2c, j1, j2, e2m, e2n⟩
  have y2 : CFacts pw K "BadStarts" C2 C0 fI cc cda _ := ⟨e2a, ⟨_, _, _, _, _, _, _, _, _, _, _, _, _, _, e2x⟩, rfl, x2, e2s, e2i, j3, e2k, e2t, e2u, e2w, e2v, e2q⟩
  have x3 : ExcK K C3 := ⟨e3g, e3h, e3b, e3d, e3c, j1, j2, e3m, e3n⟩
  have y3 : CFacts pw K "TooMany" C3 C0 fI cc cda _ := ⟨e3a, ⟨_, _, _, _, _, _, _, _, _, _, _, _, _, _, e3x⟩, rfl, x3, e3s, e3i, j3, e3k, e3t, e3u, e3w, e3v, e3q⟩
  have jf : JFacts pw K C0 fI cc cda := ⟨⟨_, _, _, _, _, _, _, _, _, _, _, _, _, _, _, _, _, _, _, rfl, j4, j5⟩, ⟨_, _, _, _, _, _, j6, j7, j8⟩, ⟨_, _, _, j9⟩, j10, j11, top_super, j13⟩
  have w0 : ClsK K mg cad cls.length sub 0 "JobError" := by
    subst hcad
    exact ⟨PySem.W.mg_of X G e0a, by decide, fun c hc => match c, hc with | 0, _ => e0A0 | 1, _ => e1A0 | 2, _ => e2A0 | 3, _ => e3A0 | z + 4, hz => absurd hz (by show ¬ (z + 4 < 4); omega), fun c hc => match c, hc with | 0, _ => e0B0 | 1, _ => e1B0 | 2, _ => e2B0 | 3, _ => e3B0 | z + 4, hz => absurd hz (by show ¬ (z + 4 < 4); omega), List.forall_mem_cons.mpr ⟨e0P0, List.forall_mem_cons.mpr ⟨e0P1, List.forall_mem_cons.mpr ⟨e0P2, List.forall_mem_cons.mpr ⟨e0P3, List.forall_mem_cons.mpr ⟨e0P4, List.forall_mem_cons.mpr ⟨e0P5, List.forall_mem_cons.mpr ⟨e0P6, fun _ h => (List.not_mem_nil h).elim⟩⟩⟩⟩⟩⟩⟩⟩
  have w1 : ClsK K mg cad cls.length sub 1 "BadPieces" := by
    subst hcad
    exact ⟨PySem.W.mg_of X G e1a, by decide, fun c hc => match c, hc with | 0, _ => e0A1 | 1, _ => e1A1 | 2, _ => e2A1 | 3, _ => e3A1 | z + 4, hz => absurd hz (by show ¬ (z + 4 < 4); omega), fun c hc => match c, hc with | 0, _ => e0B1 | 1, _ => e1B1 | 2, _ => e2B1 | 3, _ => e3B1 | z + 4, hz => absurd hz (by show ¬ (z + 4 < 4); omega), List.forall_mem_cons.mpr ⟨e1P0, List.forall_mem_cons.mpr ⟨e1P1, List.forall_mem_cons.mpr ⟨e1P2, List.forall_mem_cons.mpr ⟨e1P3, List.forall_mem_cons.mpr ⟨e1P4, List.forall_mem_cons.mpr ⟨e1P5, List.forall_mem_cons.mpr ⟨e1P6, fun _ h => (List.not_mem_nil h).elim⟩⟩⟩⟩⟩⟩⟩⟩
  have w2 : ClsK K mg cad cls.length sub 2 "BadStarts" := by
    subst hcad
    exact ⟨PySem.W.mg_of X G e2a, by decide, fun c hc => match c, hc with | 0, _ => e0A2 | 1, _ => e1A2 | 2, _ => e2A2 | 3, _ => e3A2 | z + 4, hz => absurd hz (by show ¬ (z + 4 < 4); omega), fun c hc => match c, hc with | 0, _ => e0B2 | 1, _ => e1B2 | 2, _ => e2B2 | 3, _ => e3B2 | z + 4, hz => absurd hz (by show ¬ (z + 4 < 4); omega), List.forall_mem_cons.mpr ⟨e2P0, List.forall_mem_cons.mpr ⟨e2P1, List.forall_mem_cons.mpr ⟨e2P2, List.forall_mem_cons.mpr ⟨e2P3, List.forall_mem_cons.mpr ⟨e2P4, List.forall_mem_cons.mpr ⟨e2P5, List.forall_mem_cons.mpr ⟨e2P6, fun _ h => (List.not_mem_nil h).elim⟩⟩⟩⟩⟩⟩⟩⟩
  have w3 : ClsK K mg cad cls.length sub 3 "TooMany" := by
    subst hcad
    exact ⟨PySem.W.mg_of X G e3a, by decide, fun c hc => match c, hc with | 0, _ => e0A3 | 1, _ => e1A3 | 2, _ => e2A3 | 3, _ => e3A3 | z + 4, hz => absurd hz (by show ¬ (z + 4 < 4); omega), fun c hc => match c, hc with | 0, _ => e0B3 | 1, _ => e1B3 | 2, _ => e2B3 | 3, _ => e3B3 | z + 4, hz => absurd hz (by show ¬ (z + 4 < 4); omega), List.forall_mem_cons.mpr ⟨e3P0, List.forall_mem_cons.mpr ⟨e3P1, List.forall_mem_cons.mpr ⟨e3P2, List.forall_mem_cons.mpr ⟨e3P3, List.forall_mem_cons.mpr ⟨e3P4, List.forall_mem_cons.mpr ⟨e3P5, List.forall_mem_cons.mpr ⟨e3P6, fun _ h => (List.not_mem_nil h).elim⟩⟩⟩⟩⟩⟩⟩⟩
  have hex : ∀ c, c < cls.length → ExcK K (cad c) := by
    subst hcad
    exact fun c hc => match c, hc with | 0, _ => x0 | 1, _ => x1 | 2, _ => x2 | 3, _ => x3 | z + 4, hz => absurd hz (by show ¬ (z + 4 < 4); omega)
  have hve : ∀ c, c < cls.length → PySem.W.kitOne K (.ref (cad c)) (.type "ValueError") = some true := by
    subst hcad
    exact fun c hc => match c, hc with | 0, _ => e0y | 1, _ => e1y | 2, _ => e2y | 3, _ => e3y | z + 4, hz => absurd hz (by show ¬ (z + 4 < 4); omega)
  have hjb : ∀ (c : Nat) x, cls[c]? = some x → ∃ D fI cc cda, JobTxt pw K mg x (cad c) D fI cc cda := by
    subst hcad
    exact all_cons ⟨_, _, _, _, y0.job X G jf (by decide)⟩ (all_cons ⟨_, _, _, _, y1.job X G jf (by decide)⟩ (all_cons ⟨_, _, _, _, y2.job X G jf (by decide)⟩ (all_cons ⟨_, _, _, _, y3.job X G jf (by decide)⟩ (all_nil))))
  have hats : AtsOk K cad ats := by
    subst hcad
    exact fun _ h => (List.not_mem_nil h).elim
  have hins : ∀ p ∈ ins, InsC K mg cad p.1 p.2 := by
    subst hcad
    exact fun _ h => (List.not_mem_nil h).elim
  have m0 : Mo0 cst cls sub ats ins pw K cad mg := ⟨all_cons (cst_str X G (by decide) q0) (all_cons (cst_str X G (by decide) q1) (all_cons (cst_int X G (by decide) q2) (all_cons (cst_int X G (by decide) q3) (all_cons (cst_int X G (by decide) q4) (all_nil))))), hbi, hex, all_cons w0 (all_cons w1 (all_cons w2 (all_cons w3 (all_nil)))), hve, hjb, hats, hins⟩
  refine ⟨PySem.W.fnOf "law" "law" (L2.defArgs (top 39)) (defBody (top 39)) (defScope (top 39)) .none kV26 dc26 pm26 an26 cd26 ct26, lsp ⟨K, cad⟩ Flaw, [], fun s v => .of_eq rfl, fun p hp => (List.not_mem_nil hp).elim, fun base _ _ tbs => ?_, fun H a ns hl ho hs => lsp_script rfl (by subst hcad; exact tabs_of ho rfl) hs (law_sp ns hl)⟩
  have n0 : ∀ (k : Nat) f, T0[k]? = some f → FnI pw w K cad mg base 0 f := fns_nil
  have i0 : FnI pw w K cad mg base 1 Fis_integer := fnI_of (m0.mo n0) F0 scis_integer ckis_integer okis_integer (fun z => absurd z (by decide)) (by decide) (PySem.W.mg_of X G a0) b0 (fun z => by cases z)
  have n1 : ∀ (k : Nat) f, T1[k]? = some f → FnI pw w K cad mg base 1 f := fns_snoc (l := T0) n0 i0
  have i1 : FnI pw w K cad mg base 2 Fis_between := fnI_of (m0.mo n1) F1 scis_between ckis_between okis_between (fun z => absurd z (by decide)) (by decide) (PySem.W.mg_of X G a1) b1 (fun z => by cases z)
  have n2 : ∀ (k : Nat) f, T2[k]? = some f → FnI pw w K cad mg base 2 f := fns_snoc (l := T1) n1 i1
  have i2 : FnI pw w K cad mg base 3 Fcommon := fnI_of (m0.mo n2) F2 sccommon ckcommon okcommon (fun z => absurd z (by decide)) (by decide) (PySem.W.mg_of X G a2) b2 (fun z => by cases z)
  have n3 : ∀ (k : Nat) f, T3[k]? = some f → FnI pw w K cad mg base 3 f := fns_snoc (l := T2) n2 i2
  have i3 : FnI pw w K cad mg base 4 Fis_piece := fnI_of (m0.mo n3) F3 scis_piece ckis_piece okis_piece (fun z => absurd z (by decide)) (by decide) (PySem.W.mg_of X G a3) b3 (fun z => by cases z)
  have n4 : ∀ (k : Nat) f, T4[k]? = some f → FnI pw w K cad mg base 4 f := fns_snoc (l := T3) n3 i3
  have i4 : FnI pw w K cad mg base 5 Fcheck_pieces := fnI_of (m0.mo n4) F4 sccheck_pieces ckcheck_pieces okcheck_pieces (fun z => absurd z (by decide)) (by decide) (PySem.W.mg_of X G a4) b4 (fun z => by cases z)
  have n5 : ∀ (k : Nat) f, T5[k]? = some f → FnI pw w K cad mg base 5 f := fns_snoc (l := T4) n4 i4
  have i5 : FnI pw w K cad mg base 6 Fare_starts := fnI_of (m0.mo n5) F5 scare_starts ckare_starts okare_starts (fun z => absurd z (by decide)) (by decide) (PySem.W.mg_of X G a5) b5 (fun z => by cases z)
  have n6 : ∀ (k : Nat) f, T6[k]? = some f → FnI pw w K cad mg base 6 f := fns_snoc (l := T5) n5 i5
  have i6 : FnI pw w K cad mg base 7 Fleast_with := fnI_of (m0.mo n6) F6 scleast_with ckleast_with okleast_with (fun z => absurd z (by decide)) (by decide) (PySem.W.mg_of X G a6) b6 (fun z => by cases z)
  have n7 : ∀ (k : Nat) f, T7[k]? = some f → FnI pw w K cad mg base 7 f := fns_snoc (l := T6) n6 i6
  have i7 : FnI pw w K cad mg base 8 Fframes_of := fnI_of (m0.mo n7) F7 scframes_of ckframes_of okframes_of (fun z => absurd z (by decide)) (by decide) (PySem.W.mg_of X G a7) b7 (fun z => by cases z)
  have n8 : ∀ (k : Nat) f, T8[k]? = some f → FnI pw w K cad mg base 8 f := fns_snoc (l := T7) n7 i7
  have i8 : FnI pw w K cad mg base 9 Fframes := fnI_of (m0.mo n8) F8 scframes ckframes okframes (fun z => absurd z (by decide)) (by decide) (PySem.W.mg_of X G a8) b8 (fun z => by cases z)
  have n9 : ∀ (k : Nat) f, T9[k]? = some f → FnI pw w K cad mg base 9 f := fns_snoc (l := T8) n8 i8
  have i9 : FnI pw w K cad mg base 10 Fdo_clash := fnI_of (m0.mo n9) F9 scdo_clash ckdo_clash okdo_clash (fun z => absurd z (by decide)) (by decide) (PySem.W.mg_of X G a9) b9 (fun z => by cases z)
  have n10 : ∀ (k : Nat) f, T10[k]? = some f → FnI pw w K cad mg base 10 f := fns_snoc (l := T9) n9 i9
  have i10 : FnI pw w K cad mg base 11 Fis_at_work := fnI_of (m0.mo n10) F10 scis_at_work ckis_at_work okis_at_work (fun z => absurd z (by decide)) (by decide) (PySem.W.mg_of X G a10) b10 (fun z => by cases z)
  have n11 : ∀ (k : Nat) f, T11[k]? = some f → FnI pw w K cad mg base 11 f := fns_snoc (l := T10) n10 i10
  have i11 : FnI pw w K cad mg base 12 Ffirst_minute := fnI_of (m0.mo n11) F11 scfirst_minute ckfirst_minute okfirst_minute (fun z => absurd z (by decide)) (by decide) (PySem.W.mg_of X G a11) b11 (fun z => by cases z)
  have n12 : ∀ (k : Nat) f, T12[k]? = some f → FnI pw w K cad mg base 12 f := fns_snoc (l := T11) n11 i11
  have i12 : FnI pw w K cad mg base 13 Fclash := fnI_of (m0.mo n12) F12 scclash ckclash okclash (fun z => absurd z (by decide)) (by decide) (PySem.W.mg_of X G a12) b12 (fun z => by cases z)
  have n13 : ∀ (k : Nat) f, T13[k]? = some f → FnI pw w K cad mg base 13 f := fns_snoc (l := T12) n12 i12
  have i13 : FnI pw w K cad mg base 14 Fcheck_tried := fnI_of (m0.mo n13) F13 sccheck_tried ckcheck_tried okcheck_tried (fun z => absurd z (by decide)) (by decide) (PySem.W.mg_of X G a13) b13 (fun z => by cases z)
  have n14 : ∀ (k : Nat) f, T14[k]? = some f → FnI pw w K cad mg base 14 f := fns_snoc (l := T13) n13 i13
  have i14 : FnI pw w K cad mg base 15 Fclashing := fnI_of (m0.mo n14) F14 scclashing ckclashing okclashing (fun z => absurd z (by decide)) (by decide) (PySem.W.mg_of X G a14) b14 (fun z => by cases z)
  have n15 : ∀ (k : Nat) f, T15[k]? = some f → FnI pw w K cad mg base 15 f := fns_snoc (l := T14) n14 i14
  have i15 : FnI pw w K cad mg base 16 Fplacing := fnI_of (m0.mo n15) F15 scplacing ckplacing okplacing (fun z => absurd z (by decide)) (by decide) (PySem.W.mg_of X G a15) b15 (fun z => by cases z)
  have n16 : ∀ (k : Nat) f, T16[k]? = some f → FnI pw w K cad mg base 16 f := fns_snoc (l := T15) n15 i15
  have i16 : FnI pw w K cad mg base 17 Fis_case := fnI_of (m0.mo n16) F16 scis_case ckis_case okis_case (fun z => absurd z (by decide)) (by decide) (PySem.W.mg_of X G a16) b16 (fun z => by cases z)
  have n17 : ∀ (k : Nat) f, T17[k]? = some f → FnI pw w K cad mg base 17 f := fns_snoc (l := T16) n16 i16
  have i17 : FnI pw w K cad mg base 18 Fare_cases := fnI_of (m0.mo n17) F17 scare_cases ckare_cases okare_cases (fun z => absurd z (by decide)) (by decide) (PySem.W.mg_of X G a17) b17 (fun z => by cases z)
  have n18 : ∀ (k : Nat) f, T18[k]? = some f → FnI pw w K cad mg base 18 f := fns_snoc (l := T17) n17 i17
  have i18 : FnI pw w K cad mg base 19 Fshows_placing := fnI_of (m0.mo n18) F18 scshows_placing ckshows_placing okshows_placing (fun z => absurd z (by decide)) (by decide) (PySem.W.mg_of X G a18) b18 (fun z => by cases z)
  have n19 : ∀ (k : Nat) f, T19[k]? = some f → FnI pw w K cad mg base 19 f := fns_snoc (l := T18) n18 i18
  have i19 : FnI pw w K cad mg base 20 F_law_pot := fnI_of (m0.mo n19) F19 sc_law_pot ck_law_pot ok_law_pot (fun z => absurd z (by decide)) (by decide) (PySem.W.mg_of X G a19) b19 (fun z => by cases z)
  have n20 : ∀ (k : Nat) f, T20[k]? = some f → FnI pw w K cad mg base 20 f := fns_snoc (l := T19) n19 i19
  have i20 : FnI pw w K cad mg base 21 F_law_take := fnI_of (m0.mo n20) F20 sc_law_take ck_law_take ok_law_take (fun z => absurd z (by decide)) (by decide) (PySem.W.mg_of X G a20) b20 (fun z => by cases z)
  have n21 : ∀ (k : Nat) f, T21[k]? = some f → FnI pw w K cad mg base 21 f := fns_snoc (l := T20) n20 i20
  have i21 : FnI pw w K cad mg base 22 F_law_cells := fnI_of (m0.mo n21) F21 sc_law_cells ck_law_cells ok_law_cells (fun z => absurd z (by decide)) (by decide) (PySem.W.mg_of X G a21) b21 (fun z => by cases z)
  have n22 : ∀ (k : Nat) f, T22[k]? = some f → FnI pw w K cad mg base 22 f := fns_snoc (l := T21) n21 i21
  have i22 : FnI pw w K cad mg base 23 F_law_some := fnI_of (m0.mo n22) F22 sc_law_some ck_law_some ok_law_some (fun z => absurd z (by decide)) (by decide) (PySem.W.mg_of X G a22) b22 (fun z => by cases z)
  have n23 : ∀ (k : Nat) f, T23[k]? = some f → FnI pw w K cad mg base 23 f := fns_snoc (l := T22) n22 i22
  have i23 : FnI pw w K cad mg base 24 F_law_is_free := fnI_of (m0.mo n23) F23 sc_law_is_free ck_law_is_free ok_law_is_free (fun z => absurd z (by decide)) (by decide) (PySem.W.mg_of X G a23) b23 (fun z => by cases z)
  have n24 : ∀ (k : Nat) f, T24[k]? = some f → FnI pw w K cad mg base 24 f := fns_snoc (l := T23) n23 i23
  have i24 : FnI pw w K cad mg base 25 F_law_right := fnI_of (m0.mo n24) F24 sc_law_right ck_law_right ok_law_right (fun z => absurd z (by decide)) (by decide) (PySem.W.mg_of X G a24) b24 (fun z => by cases z)
  have n25 : ∀ (k : Nat) f, T25[k]? = some f → FnI pw w K cad mg base 25 f := fns_snoc (l := T24) n24 i24
  have i25 : FnI pw w K cad mg base 26 F_law_is_full_right := fnI_of (m0.mo n25) F25 sc_law_is_full_right ck_law_is_full_right ok_law_is_full_right (fun z => absurd z (by decide)) (by decide) (PySem.W.mg_of X G a25) b25 (fun z => by cases z)
  have n26 : ∀ (k : Nat) f, T26[k]? = some f → FnI pw w K cad mg base 26 f := fns_snoc (l := T25) n25 i25
  exact def_ok (m0.mo n26) F26 sclaw cklaw oklaw (fun z => absurd z (by decide))
end K45
open PySem PySem.W PyProof.Rows
set_option maxHeartbeats 0 in
theorem PySem.Challenge.cw_againandagain_k45_whole_pieces_of_one_fa_holds : PySem.Challenge.rw_againandagain_k45_whole_pieces_of_one_fa.Holds := by
  w_on; o_law; k_head; (case hw => w_witness2)
  k_fill
  refine AA.walkG3 (l := PySem.Challenge.rw_againandagain_k45_whole_pieces_of_one_fa) (n := 63) (k := 27) (x := "script") rfl (by decide) rfl ⟨rfl, by decide, by decide⟩ (fun w h Y => by first | exact PySem.W.kIn_of Y | exact PySem.W.km_in_of Y) ?F
  case F =>
    intro w mg fa h KX G TT hmg
    refine' K45.all_mk KX G TT hmg ?a0 ?l0 ?c0 ?k0 ?a1 ?l1 ?c1 ?k1 ?a2 ?l2 ?c2 ?k2 ?a3 ?l3 ?c3 ?k3 ?a4 ?l4 ?c4 ?k4 ?a5 ?l5 ?c5 ?k5 ?a6 ?l6 ?c6 ?k6 ?a7 ?l7 ?c7 ?k7 ?a8 ?l8 ?c8 ?k8 ?a9 ?l9 ?c9 ?k9 ?a10 ?l10 ?c10 ?k10 ?a11 ?l11 ?c11 ?k11 ?a12 ?l12 ?c12 ?k12 ?a13 ?l13 ?c13 ?k13 ?a14 ?l14 ?c14 ?k14 ?a15 ?l15 ?c15 ?k15 ?a16 ?l16 ?c16 ?k16 ?a17 ?l17 ?c17 ?k17 ?a18 ?l18 ?c18 ?k18 ?a19 ?l19 ?c19 ?k19 ?a20 ?l20 ?c20 ?k20 ?a21 ?l21 ?c21 ?k21 ?a22 ?l22 ?c22 ?k22 ?a23 ?l23 ?c23 ?k23 ?a24 ?l24 ?c24 ?k24 ?a25 ?l25 ?c25 ?k25 ?a26 ?l26 ?c26 ?k26 ?z0 ?z1 ?z2 ?z3 ?z4 ?z5 ?z6 ?z7 ?z8 ?z9 ?z10 ?z11 ?z12 ?z13 ?z14 ?z15 ?z16 ?z17 ?z18 ?z19 ?z20 ?q0 ?q1 ?q2 ?q3 ?q4 ?e0a ?e1a ?e2a ?e3a ?e0x ?e0g ?e0h ?e0b ?e0d ?e0c ?e0m ?e0n ?e0s ?e0i ?e0k ?e0t ?e0u ?e0w ?e0v ?e0q ?e0y ?e0A0 ?e0B0 ?e0A1 ?e0B1 ?e0A2 ?e0B2 ?e0A3 ?e0B3 ?e0P0 ?e0P1 ?e0P2 ?e0P3 ?e0P4 ?e0P5 ?e0P6 ?e1x ?e1g ?e1h ?e1b ?e1d ?e1c ?e1m ?e1n ?e1s ?e1i ?e1k ?e1t ?e1u ?e1w ?e1v ?e1q ?e1y ?e1A0 ?e1B0 ?e1A1 ?e1B1 ?e1A2 ?e1B2 ?e1A3 ?e1B3 ?e1P0 ?e1P1 ?e1P2 ?e1P3 ?e1P4 ?e1P5 ?e1P6 ?e2x ?e2g ?e2h ?e2b ?e2d ?e2c ?e2m ?e2n ?e2s ?e2i ?e2k ?e2t ?e2u ?e2w ?e2v ?e2q ?e2y ?e2A0 ?e2B0 ?e2A1 ?e2B1 ?e2A2 ?e2B2 ?e2A3 ?e2B3 ?e2P0 ?e2P1 ?e2P2 ?e2P3 ?e2P4 ?e2P5 ?e2P6 ?e3x ?e3g ?e3h ?e3b ?e3d ?e3c ?e3m ?e3n ?e3s ?e3i ?e3k ?e3t ?e3u ?e3w ?e3v ?e3q ?e3y ?e3A0 ?e3B0 ?e3A1 ?e3B1 ?e3A2 ?e3B2 ?e3A3 ?e3B3 ?e3P0 ?e3P1 ?e3P2 ?e3P3 ?e3P4 ?e3P5 ?e3P6 ?j1 ?j2 ?j3 ?j4 ?j5 ?j6 ?j7 ?j8 ?j9 ?j10 ?j11 ?j13
    (case a0 => k_is)
    (case l0 => k_is)
    (case c0 => k_is)
    (case k0 => k_is)
    (case a1 => k_is)
    (case l1 => k_is)
    (case c1 => k_is)
    (case k1 => k_is)
    (case a2 => k_is)
    (case l2 => k_is)
    (case c2 => k_is)
    (case k2 => k_is)
    (case a3 => k_is)
    (case l3 => k_is)
    (case c3 => k_is)
    (case k3 => k_is)
    (case a4 => k_is)
    (case l4 => k_is)
    (case c4 => k_is)
    (case k4 => k_is)
    (case a5 => k_is)
    (case l5 => k_is)
    (case c5 => k_is)
    (case k5 => k_is)
    (case a6 => k_is)
    (case l6 => k_is)
    (case c6 => k_is)
    (case k6 => k_is)
    (case a7 => k_is)
    (case l7 => k_is)
    (case c7 => k_is)
    (case k7 => k_is)
    (case a8 => k_is)
    (case l8 => k_is)
    (case c8 => k_is)
    (case k8 => k_is)
    (case a9 => k_is)
    (case l9 => k_is)
    (case c9 => k_is)
    (case k9 => k_is)
    (case a10 => k_is)
    (case l10 => k_is)
    (case c10 => k_is)
    (case k10 => k_is)
    (case a11 => k_is)
    (case l11 => k_is)
    (case c11 => k_is)
    (case k11 => k_is)
    (case a12 => k_is)
    (case l12 => k_is)
    (case c12 => k_is)
    (case k12 => k_is)
    (case a13 => k_is)
    (case l13 => k_is)
    (case c13 => k_is)
    (case k13 => k_is)
    (case a14 => k_is)
    (case l14 => k_is)
    (case c14 => k_is)
    (case k14 => k_is)
    (case a15 => k_is)
    (case l15 => k_is)
    (case c15 => k_is)
    (case k15 => k_is)
    (case a16 => k_is)
    (case l16 => k_is)
    (case c16 => k_is)
    (case k16 => k_is)
    (case a17 => k_is)
    (case l17 => k_is)
    (case c17 => k_is)
    (case k17 => k_is)
    (case a18 => k_is)
    (case l18 => k_is)
    (case c18 => k_is)
    (case k18 => k_is)
    (case a19 => k_is)
    (case l19 => k_is)
    (case c19 => k_is)
    (case k19 => k_is)
    (case a20 => k_is)
    (case l20 => k_is)
    (case c20 => k_is)
    (case k20 => k_is)
    (case a21 => k_is)
    (case l21 => k_is)
    (case c21 => k_is)
    (case k21 => k_is)
    (case a22 => k_is)
    (case l22 => k_is)
    (case c22 => k_is)
    (case k22 => k_is)
    (case a23 => k_is)
    (case l23 => k_is)
    (case c23 => k_is)
    (case k23 => k_is)
    (case a24 => k_is)
    (case l24 => k_is)
    (case c24 => k_is)
    (case k24 => k_is)
    (case a25 => k_is)
    (case l25 => k_is)
    (case c25 => k_is)
    (case k25 => k_is)
    (case a26 => k_is)
    (case l26 => k_is)
    (case c26 => k_is)
    (case k26 => k_is)
    (case z0 => k_is)
    (case z1 => k_is)
    (case z2 => k_is)
    (case z3 => k_is)
    (case z4 => k_is)
    (case z5 => k_is)
    (case z6 => k_is)
    (case z7 => k_is)
    (case z8 => k_is)
    (case z9 => k_is)
    (case z10 => k_is)
    (case z11 => k_is)
    (case z12 => k_is)
    (case z13 => k_is)
    (case z14 => k_is)
    (case z15 => k_is)
    (case z16 => k_is)
    (case z17 => k_is)
    (case z18 => k_is)
    (case z19 => k_is)
    (case z20 => k_is)
    (case q0 => k_is)
    (case q1 => k_is)
    (case q2 => k_is)
    (case q3 => k_is)
    (case q4 => k_is)
    (case e0a => k_is)
    (case e1a => k_is)
    (case e2a => k_is)
    (case e3a => k_is)
    (case e0x => k_is)
    (case e0g => k_is)
    (case e0h => k_is)
    (case e0b => k_is)
    (case e0d => k_is)
    (case e0c => k_is)
    (case e0m => k_is)
    (case e0n => k_is)
    (case e0s => k_is)
    (case e0i => k_is)
    (case e0k => k_is)
    (case e0t => k_is)
    (case e0u => k_is)
    (case e0w => ks_is)
    (case e0v => k_is)
    (case e0q => kx_is)
    (case e0y => kit_is)
    (case e0A0 => kit_is)
    (case e0B0 => kts_exm)
    (case e0A1 => kit_is)
    (case e0B1 => kts_exm)
    (case e0A2 => kit_is)
    (case e0B2 => kts_exm)
    (case e0A3 => kit_is)
    (case e0B3 => kts_exm)
    (case e0P0 => kit_is)
    (case e0P1 => kit_is)
    (case e0P2 => kit_is)
    (case e0P3 => kit_is)
    (case e0P4 => kit_is)
    (case e0P5 => kit_is)
    (case e0P6 => kit_is)
    (case e1x => k_is)
    (case e1g => k_is)
    (case e1h => k_is)
    (case e1b => k_is)
    (case e1d => k_is)
    (case e1c => k_is)
    (case e1m => k_is)
    (case e1n => k_is)
    (case e1s => k_is)
    (case e1i => k_is)
    (case e1k => k_is)
    (case e1t => k_is)
    (case e1u => k_is)
    (case e1w => ks_is)
    (case e1v => k_is)
    (case e1q => kx_is)
    (case e1y => kit_is)
    (case e1A0 => kit_is)
    (case e1B0 => kts_exm)
    (case e1A1 => kit_is)
    (case e1B1 => kts_exm)
    (case e1A2 => kit_is)
    (case e1B2 => kts_exm)
    (case e1A3 => kit_is)
    (case e1B3 => kts_exm)
    (case e1P0 => kit_is)
    (case e1P1 => kit_is)
    (case e1P2 => kit_is)
    (case e1P3 => kit_is)
    (case e1P4 => kit_is)
    (case e1P5 => kit_is)
    (case e1P6 => kit_is)
    (case e2x => k_is)
    (case e2g => k_is)
    (case e2h => k_is)
    (case e2b => k_is)
    (case e2d => k_is)
    (case e2c => k_is)
    (case e2m => k_is)
    (case e2n => k_is)
    (case e2s => k_is)
    (case e2i => k_is)
    (case e2k => k_is)
    (case e2t => k_is)
    (case e2u => k_is)
    (case e2w => ks_is)
    (case e2v => k_is)
    (case e2q => kx_is)
    (case e2y => kit_is)
    (case e2A0 => kit_is)
    (case e2B0 => kts_exm)
    (case e2A1 => kit_is)
    (case e2B1 => kts_exm)
    (case e2A2 => kit_is)
    (case e2B2 => kts_exm)
    (case e2A3 => kit_is)
    (case e2B3 => kts_exm)
    (case e2P0 => kit_is)
    (case e2P1 => kit_is)
    (case e2P2 => kit_is)
    (case e2P3 => kit_is)
    (case e2P4 => kit_is)
    (case e2P5 => kit_is)
    (case e2P6 => kit_is)
    (case e3x => k_is)
    (case e3g => k_is)
    (case e3h => k_is)
    (case e3b => k_is)
    (case e3d => k_is)
    (case e3c => k_is)
    (case e3m => k_is)
    (case e3n => k_is)
    (case e3s => k_is)
    (case e3i => k_is)
    (case e3k => k_is)
    (case e3t => k_is)
    (case e3u => k_is)
    (case e3w => ks_is)
    (case e3v => k_is)
    (case e3q => kx_is)
    (case e3y => kit_is)
    (case e3A0 => kit_is)
    (case e3B0 => kts_exm)
    (case e3A1 => kit_is)
    (case e3B1 => kts_exm)
    (case e3A2 => kit_is)
    (case e3B2 => kts_exm)
    (case e3A3 => kit_is)
    (case e3B3 => kts_exm)
    (case e3P0 => kit_is)
    (case e3P1 => kit_is)
    (case e3P2 => kit_is)
    (case e3P3 => kit_is)
    (case e3P4 => kit_is)
    (case e3P5 => kit_is)
    (case e3P6 => kit_is)
    (case j1 => k_is)
    (case j2 => k_is)
    (case j3 => k_is)
    (case j4 => k_is)
    (case j5 => k_is)
    (case j6 => k_is)
    (case j7 => first | rfl | decide +kernel | k_is)
    (case j8 => first | rfl | decide +kernel | k_is)
    (case j9 => k_is)
    (case j10 => k_is)
    (case j11 => k_is)
    (case j13 => k_is)
