import PyProof.Rows.All
import Wide.All
import OpenK.AllK
import Wide.FinOn
import PySem.Challenge.RW_againandagain_k11_whole_jobs_of_each_so
import HandS.ForMost
import HandS.Exc
import HandS.TryOnly
import HandS.ExcOwn
import HandS.WordsExc
import HandS.IsInst
import HandS.Wide
import HandS.TupAny
import HandS.Flow
import HandS.Lambda
import HandS.TupLe
import HandS.SortInts
import HandS.Text
import HandS.Dict
import HandS.Call
import HandS.Property
import HandS.Conv
import KE.KEqDict
import HandS.Deep
import KE.KDictList
import HandS.WordsDict
import HandS.CallSlots
import HandS.TupMul
import HandS.Star
import HandS.Zip
import KE.DataMinMax
import HandS.Walk
import KE.GoesEnum
import PyProof.ZipIter
import KE.GoesMore
import PyProof.ReprRoads
import HandS.Style
import HandS.RaiseMore
import HandS.SetFor
import KE.KRevSl
import HandS.ExcIs
import KE.KExcIs
import HandS.Ends
import HandS.Words
import KE.KExcSuper
import KE.KSuper
set_option Elab.async false
set_option linter.all false
set_option maxRecDepth 100000
set_option maxHeartbeats 8000000
/-! AA1: data, abstract memory, relations. -/
namespace AA
open PySem PySem.Spec L2
open PyProof.Rows hiding St

/-- a datum: tuples and read-only lists by their items, mutable things by a number -/
inductive D where
  | non | bl (b : Bool) | int (i : Int) | str (x : Str)
  | tup (xs : List D) | lst (xs : List D) | ref (n : Nat) | exc (c : Nat) (v : D) | dic0
inductive MO where
  | lst (xs : List D) | dct (kvs : List (Key × D)) | ins (c : Nat) (fs : List (Str × D))
abbrev Mem := List MO

/-- an exception object of the class cls, its dict at dx, that stands at a -/
def ExcO (cls : Value) (dx a : Addr) : HO := .ext fun h => ∃ (oe : Obj) (vs : Array Value), h.get? a = some oe ∧ Zc cls (some dx) oe ∧ oe.data = .fields vs

/-- the classes' addresses; the tables of code objects that are tracked -/
structure Cad where
  at_ : Nat → Addr
  tabs : List (Addr × Str)
instance : CoeFun Cad (fun _ => Nat → Addr) := ⟨Cad.at_⟩
structure Gm where
  K : PySem.W.Frag
  cad : Cad

/-- a tracked thing that is not among the numbered ones -/
def Own (ρ : List Addr) (H : Hp) (α : List Addr) (a : Addr) (o : HO) : Prop := a ∉ α ∧ a ∉ ρ ∧ Rd H a o
def TupAt (K : PySem.W.Frag) (ρ : List Addr) (H : Hp) (α : List Addr) (a : Addr) (vs : List V) : Prop :=
  Own ρ H α a (.tup vs) ∨ ∃ (o : Obj) (its : Array Value) (n : Nat), K.lookup a = some o ∧ o.cls = .type "tuple" ∧ o.data = .seq its n ∧ its.size ≤ sizeLine ∧ Vals vs its.toList
def LstAt (K : PySem.W.Frag) (ρ : List Addr) (H : Hp) (α : List Addr) (a : Addr) (vs : List V) : Prop :=
  Own ρ H α a (.lst vs) ∨ ∃ (o : Obj) (its : Array Value) (n : Nat), K.lookup a = some o ∧ o.cls = .type "list" ∧ o.dict = none ∧ o.data = .seq its n ∧ its.size ≤ sizeLine ∧ Vals vs its.toList
mutual
def RD (G : Gm) (ρ : List Addr) (H : Hp) (α : List Addr) : D → V → Prop
  | .non, v => v = .non
  | .bl b, v => v = .bl b
  | .int i, v => v = .int i
  | .str x, v => v = .str x
  | .tup xs, v => ∃ a vs, v = .ref a ∧ TupAt G.K ρ H α a vs ∧ RDs G ρ H α xs vs
  | .lst xs, v => ∃ a vs, v = .ref a ∧ LstAt G.K ρ H α a vs ∧ RDs G ρ H α xs vs
  | .ref n, v => ∃ a, v = .ref a ∧ α[n]? = some a
  | .dic0, v => ∃ a, v = .ref a ∧ Own ρ H α a (.dK [])
  | .exc c d, v => ∃ a dx dv, v = .ref a ∧ a ∉ α ∧ a ∉ ρ ∧ H a = some (ExcO (.ref (G.cad c)) dx a) ∧ dx ∉ α ∧ dx ∉ ρ ∧ H dx = some (.xd [("value", dv)]) ∧ RD G ρ H α d dv
def RDs (G : Gm) (ρ : List Addr) (H : Hp) (α : List Addr) : List D → List V → Prop
  | [], vs => vs = []
  | d :: ds, vs => ∃ v vs', vs = v :: vs' ∧ RD G ρ H α d v ∧ RDs G ρ H α ds vs'
end

def notTbl (o : HO) : Prop := ∀ ps, o ≠ .tbl ps
/-- what comes behind: all but the numbered things stands, further numbers are new -/
def Fre (H : Hp) (b : Addr) : Prop := H b = none ∨ ∃ ps, H b = some (.tbl ps)
theorem Fre.no {H : Hp} {b : Addr} {o : HO} (f : Fre H b) (h : H b = some o) (t : notTbl o) : False := by
  rcases f with f | ⟨ps, f⟩
  · rw [h] at f; cases f
  · rw [h] at f; cases f; exact t _ rfl
structure Nx (ρ : List Addr) (α : List Addr) (H : Hp) (α' : List Addr) (H' : Hp) : Prop where
  pre : ∃ β, α' = α ++ β ∧ ∀ b ∈ β, Fre H b
  keep : ∀ a o, H a = some o → notTbl o → a ∉ α → a ∉ ρ → H' a = some o
  stay : ∀ a, Fre H' a → Fre H a
theorem Nx.refl (ρ α : List Addr) (H : Hp) : Nx ρ α H α H := ⟨⟨[], by simp⟩, fun _ _ h _ _ _ => h, fun _ h => h⟩
theorem Nx.notin {ρ α α' : List Addr} {H H' : Hp} (n : Nx ρ α H α' H') {a : Addr} {o : HO} (h : H a = some o) (ha : a ∉ α) (t : notTbl o := by intro ps z; cases z) : a ∉ α' := by
  obtain ⟨β, rfl, hb⟩ := n.pre
  intro z
  rcases List.mem_append.mp z with z | z
  · exact ha z
  · exact (hb a z).no h t
theorem Nx.trans {ρ α α1 α2 : List Addr} {H H1 H2 : Hp} (m : Nx ρ α H α1 H1) (n : Nx ρ α1 H1 α2 H2) : Nx ρ α H α2 H2 := by
  obtain ⟨β, rfl, hb⟩ := id m.pre
  obtain ⟨γ, rfl, hc⟩ := id n.pre
  refine ⟨⟨β ++ γ, by rw [List.append_assoc], fun b hb' => ?_⟩, fun a o h t ha hr => n.keep a o (m.keep a o h t ha hr) t (m.notin h ha t) hr, fun a h => m.stay a (n.stay a h)⟩
  rcases List.mem_append.mp hb' with z | z
  · exact hb b z
  · exact m.stay b (hc b z)
theorem Nx.new {ρ α : List Addr} {H : Hp} {p : Addr} {o : HO} (h : H p = none) : Nx ρ α H α (upd H p o) :=
  ⟨⟨[], by simp⟩, fun a u e _ _ _ => by rw [upd_ne (ne_of_none e h)]; exact e, fun a e => by
    by_cases z : a = p
    · exact .inl (by rw [z]; exact h)
    · unfold Fre at e ⊢; rwa [upd_ne z] at e⟩
theorem Nx.num {ρ α : List Addr} {H : Hp} {p : Addr} {o : HO} (h : H p = none) : Nx ρ α H (α ++ [p]) (upd H p o) :=
  ⟨⟨[p], rfl, fun b hb => by rw [List.mem_singleton.mp hb]; exact .inl h⟩, (Nx.new (ρ := ρ) (α := α) h).keep, (Nx.new (ρ := ρ) (α := α) h).stay⟩
theorem Nx.write {ρ α : List Addr} {H : Hp} {p : Addr} {o u : HO} (h : H p = some u) (hp : p ∈ α) (t : notTbl o := by intro ps z; cases z) : Nx ρ α H α (upd H p o) :=
  ⟨⟨[], by simp⟩, fun a v e _ ha _ => by rw [upd_ne (fun z => ha (by rw [z]; exact hp))]; exact e, fun a e => by
    by_cases z : a = p
    · rw [z] at e; exact (e.no upd_same t).elim
    · unfold Fre at e ⊢; rwa [upd_ne z] at e⟩
theorem Own.nx {χ ρ α α' : List Addr} {H H' : Hp} {a : Addr} {o : HO} (w : Own ρ H α a o) (n : Nx χ α H α' H') (t : notTbl o) (hs : ∀ b ∈ χ, b ∈ ρ := by intro b hb; cases hb) : Own ρ H' α' a o := by
  obtain ⟨ha, hr, h | ⟨u, h⟩⟩ := w
  · exact ⟨n.notin h ha t, hr, .inl (n.keep a o h t ha fun z => hr (hs _ z))⟩
  · exact ⟨n.notin h ha, hr, .inr ⟨u, n.keep a _ h (fun ps z => by cases z) ha fun z => hr (hs _ z)⟩⟩
theorem TupAt.nx {K : PySem.W.Frag} {χ ρ α α' : List Addr} {H H' : Hp} {a : Addr} {vs : List V} (w : TupAt K ρ H α a vs) (n : Nx χ α H α' H') (hs : ∀ b ∈ χ, b ∈ ρ := by intro b hb; cases hb) : TupAt K ρ H' α' a vs := by
  rcases w with w | w
  · exact .inl (w.nx n (fun ps z => by cases z) hs)
  · exact .inr w
theorem LstAt.nx {K : PySem.W.Frag} {χ ρ α α' : List Addr} {H H' : Hp} {a : Addr} {vs : List V} (w : LstAt K ρ H α a vs) (n : Nx χ α H α' H') (hs : ∀ b ∈ χ, b ∈ ρ := by intro b hb; cases hb) : LstAt K ρ H' α' a vs := by
  rcases w with w | w
  · exact .inl (w.nx n (fun ps z => by cases z) hs)
  · exact .inr w
theorem num_nx {χ α α' : List Addr} {H H' : Hp} (n : Nx χ α H α' H') {k : Nat} {a : Addr} (h : α[k]? = some a) : α'[k]? = some a := by
  obtain ⟨β, rfl, _⟩ := n.pre
  rw [List.getElem?_append_left (List.getElem?_eq_some_iff.mp h).1]; exact h
mutual
theorem RD.nx' {G : Gm} {χ ρ α α' : List Addr} {H H' : Hp} (n : Nx χ α H α' H') (hs : ∀ b ∈ χ, b ∈ ρ) : ∀ (d : D) (v : V), RD G ρ H α d v → RD G ρ H' α' d v
  | .non, v, h => h
  | .bl _, v, h => h
  | .int _, v, h => h
  | .str _, v, h => h
  | .tup xs, v, h => by
    obtain ⟨a, vs, e, t, r⟩ := h
    exact ⟨a, vs, e, t.nx n hs, RDs.nx' n hs xs vs r⟩
  | .lst xs, v, h => by
    obtain ⟨a, vs, e, t, r⟩ := h
    exact ⟨a, vs, e, t.nx n hs, RDs.nx' n hs xs vs r⟩
  | .ref k, v, h => by
    obtain ⟨a, e, t⟩ := h
    exact ⟨a, e, num_nx n t⟩
  | .dic0, v, h => by
    obtain ⟨a, e, t⟩ := h
    exact ⟨a, e, t.nx n (fun ps z => by cases z) hs⟩
  | .exc c d, v, h => by
    obtain ⟨a, dx, dv, e, na, ra, ha, nd, rd, hd, r⟩ := h
    exact ⟨a, dx, dv, e, n.notin ha na, ra, n.keep _ _ ha (fun ps z => by cases z) na (fun z => ra (hs _ z)), n.notin hd nd, rd, n.keep _ _ hd (fun ps z => by cases z) nd (fun z => rd (hs _ z)), RD.nx' n hs d dv r⟩
theorem RDs.nx' {G : Gm} {χ ρ α α' : List Addr} {H H' : Hp} (n : Nx χ α H α' H') (hs : ∀ b ∈ χ, b ∈ ρ) : ∀ (ds : List D) (vs : List V), RDs G ρ H α ds vs → RDs G ρ H' α' ds vs
  | [], vs, h => h
  | d :: ds, vs, h => by
    obtain ⟨v, vs', e, r, rs⟩ := h
    exact ⟨v, vs', e, RD.nx' n hs d v r, RDs.nx' n hs ds vs' rs⟩
end
theorem RD.nx {G : Gm} {χ ρ α α' : List Addr} {H H' : Hp} {d : D} {v : V} (r : RD G ρ H α d v) (n : Nx χ α H α' H') (hs : ∀ b ∈ χ, b ∈ ρ := by intro b hb; cases hb) : RD G ρ H' α' d v := RD.nx' n hs d v r
theorem RDs.nx {G : Gm} {χ ρ α α' : List Addr} {H H' : Hp} {d : List D} {v : List V} (r : RDs G ρ H α d v) (n : Nx χ α H α' H') (hs : ∀ b ∈ χ, b ∈ ρ := by intro b hb; cases hb) : RDs G ρ H' α' d v := RDs.nx' n hs d v r
theorem RDs.length {G : Gm} {H : Hp} {ρ α : List Addr} : ∀ {ds : List D} {vs : List V}, RDs G ρ H α ds vs → ds.length = vs.length
  | [], vs, h => by rw [show vs = [] from h]; rfl
  | d :: ds, vs, h => by
    obtain ⟨v, vs', e, r, rs⟩ := h
    rw [e, List.length_cons, List.length_cons, RDs.length rs]
theorem RDs.get {G : Gm} {H : Hp} {ρ α : List Addr} : ∀ {ds : List D} {vs : List V} {i : Nat} {d : D}, RDs G ρ H α ds vs → ds[i]? = some d → ∃ v, vs[i]? = some v ∧ RD G ρ H α d v
  | [], vs, i, d, h, e => by simp at e
  | d :: ds, vs, 0, d', h, e => by
    obtain ⟨v, vs', rfl, r, rs⟩ := h
    simp at e; subst e
    exact ⟨v, rfl, r⟩
  | d :: ds, vs, i + 1, d', h, e => by
    obtain ⟨v, vs', rfl, r, rs⟩ := h
    obtain ⟨u, h1, h2⟩ := RDs.get (i := i) rs (by simpa using e)
    exact ⟨u, by simpa using h1, h2⟩
theorem RDs.get' {G : Gm} {H : Hp} {ρ α : List Addr} {ds : List D} {vs : List V} {i : Nat} {v : V} (h : RDs G ρ H α ds vs) (e : vs[i]? = some v) : ∃ d, ds[i]? = some d ∧ RD G ρ H α d v := by
  have hl := h.length
  obtain ⟨hi, _⟩ := List.getElem?_eq_some_iff.mp e
  have hd : ds[i]? = some ds[i] := List.getElem?_eq_getElem (by omega)
  obtain ⟨u, h1, h2⟩ := h.get hd
  rw [e] at h1; cases h1
  exact ⟨_, hd, h2⟩
theorem RDs.nil {G : Gm} {H : Hp} {ρ α : List Addr} : RDs G ρ H α [] [] := rfl
theorem RDs.cons {G : Gm} {H : Hp} {ρ α : List Addr} {d : D} {v : V} {ds : List D} {vs : List V} (r : RD G ρ H α d v) (rs : RDs G ρ H α ds vs) : RDs G ρ H α (d :: ds) (v :: vs) := ⟨v, vs, rfl, r, rs⟩
theorem RDs.append {G : Gm} {H : Hp} {ρ α : List Addr} : ∀ {ds es : List D} {vs us : List V}, RDs G ρ H α ds vs → RDs G ρ H α es us → RDs G ρ H α (ds ++ es) (vs ++ us)
  | [], es, vs, us, h, k => by rw [show vs = [] from h]; exact k
  | d :: ds, es, vs, us, h, k => by
    obtain ⟨v, vs', rfl, r, rs⟩ := h
    exact .cons r (RDs.append rs k)
theorem RDs.set {G : Gm} {H : Hp} {ρ α : List Addr} {d : D} {v : V} (r : RD G ρ H α d v) : ∀ {ds : List D} {vs : List V} (i : Nat), RDs G ρ H α ds vs → RDs G ρ H α (ds.set i d) (vs.set i v)
  | [], vs, i, h => by rw [show vs = [] from h]; exact .nil
  | e :: ds, vs, 0, h => by
    obtain ⟨u, vs', rfl, _, rs⟩ := h
    exact .cons r rs
  | e :: ds, vs, i + 1, h => by
    obtain ⟨u, vs', rfl, r', rs⟩ := h
    exact .cons r' (RDs.set r i rs)
theorem RDs.take {G : Gm} {H : Hp} {ρ α : List Addr} : ∀ {ds : List D} {vs : List V} (n : Nat), RDs G ρ H α ds vs → RDs G ρ H α (ds.take n) (vs.take n)
  | _, _, 0, _ => by simp; exact RDs.nil
  | [], vs, n + 1, h => by rw [show vs = [] from h]; simp; exact RDs.nil
  | d :: ds, vs, n + 1, h => by
    obtain ⟨v, vs', rfl, r, rs⟩ := h
    exact .cons r (RDs.take n rs)
theorem RDs.drop {G : Gm} {H : Hp} {ρ α : List Addr} : ∀ {ds : List D} {vs : List V} (n : Nat), RDs G ρ H α ds vs → RDs G ρ H α (ds.drop n) (vs.drop n)
  | _, _, 0, h => by simpa using h
  | [], vs, n + 1, h => by rw [show vs = [] from h]; simp; exact RDs.nil
  | d :: ds, vs, n + 1, h => by
    obtain ⟨v, vs', rfl, r, rs⟩ := h
    simpa using RDs.drop n rs
theorem RDs.ints {G : Gm} {H : Hp} {ρ α : List Addr} : ∀ {ns : List Int} {vs : List V}, RDs G ρ H α (ns.map D.int) vs → vs = ns.map V.int
  | [], vs, h => h
  | n :: ns, vs, h => by
    obtain ⟨v, vs', rfl, r, rs⟩ := h
    have e : v = .int n := r
    rw [e, List.map_cons, RDs.ints rs]
theorem RDs.of_ints {G : Gm} {H : Hp} {ρ α : List Addr} : ∀ (ns : List Int), RDs G ρ H α (ns.map D.int) (ns.map V.int)
  | [] => rfl
  | n :: ns => ⟨_, _, rfl, rfl, RDs.of_ints ns⟩

/-! ### the abstract memory -/
def RO (G : Gm) (ρ : List Addr) (H : Hp) (α : List Addr) (a : Addr) : MO → Prop
  | .lst ds => ∃ vs, H a = some (.lst vs) ∧ RDs G ρ H α ds vs
  | .dct kvs => ∃ kvs', H a = some (.dK kvs') ∧ kvs.map (·.1) = kvs'.map (·.1) ∧ RDs G ρ H α (kvs.map (·.2)) (kvs'.map (·.2))
  | .ins c fs => ∃ dx fs', H a = some (.ins (G.cad c) dx fs') ∧ fs.map (·.1) = fs'.map (·.1) ∧ RDs G ρ H α (fs.map (·.2)) (fs'.map (·.2))
theorem RO.num {G : Gm} {ρ : List Addr} {H : Hp} {α : List Addr} {a : Addr} {mo : MO} (r : RO G ρ H α a mo) : ∃ o, H a = some o ∧ notTbl o ∧ ∀ c q, o ≠ LamX.CodeO c q := by
  cases mo with
  | lst ds => obtain ⟨vs, e, q⟩ := r; exact ⟨_, e, fun ps z => (by cases z), fun c q z => (by unfold LamX.CodeO at z; cases z)⟩
  | dct kvs => obtain ⟨vs, e, q⟩ := r; exact ⟨_, e, fun ps z => (by cases z), fun c q z => (by unfold LamX.CodeO at z; cases z)⟩
  | ins c fs => obtain ⟨dx, vs, e, q⟩ := r; exact ⟨_, e, fun ps z => (by cases z), fun c q z => (by unfold LamX.CodeO at z; cases z)⟩
theorem tabs_new {T : List (Addr × Str)} {H : Hp} {p : Addr} {o : HO} (t : LamX.Tabs T H) (h : H p = none) : LamX.Tabs T (upd H p o) := t.ext fun b u e => by rw [upd_ne (ne_of_none e h)]; exact e
theorem tabs_at {T : List (Addr × Str)} {H : Hp} {p : Addr} {o u : HO} (t : LamX.Tabs T H) (h : H p = some u) (h1 : notTbl u) (h2 : ∀ c q, u ≠ LamX.CodeO c q) : LamX.Tabs T (upd H p o) := fun q hq => by
  obtain ⟨ps, e1, e2, e3⟩ := t q hq
  have n1 : q.1 ≠ p := fun z => by rw [z, h] at e1; cases e1; exact h1 _ rfl
  refine ⟨ps, by rw [upd_ne n1]; exact e1, e2, fun pos cv hc => ?_⟩
  obtain ⟨c, e4, e5⟩ := e3 pos cv hc
  have n2 : c ≠ p := fun z => by rw [z, h] at e5; exact h2 _ _ (Option.some.inj e5)
  exact ⟨c, e4, by rw [upd_ne n2]; exact e5⟩
structure RM (G : Gm) (ρ : List Addr) (H : Hp) (α : List Addr) (M : Mem) : Prop where
  len : α.length = M.length
  nd : α.Nodup
  rho : ∀ b ∈ ρ, ¬ Fre H b
  tab : LamX.Tabs G.cad.tabs H
  at_ : ∀ (n : Nat) a mo, α[n]? = some a → M[n]? = some mo → RO G ρ H α a mo
theorem RO.nx {G : Gm} {H H' : Hp} {χ ρ α α' : List Addr} {a : Addr} {mo : MO} (r : RO G ρ H α a mo) (n : Nx χ α H α' H') (h : H' a = H a) (hs : ∀ b ∈ χ, b ∈ ρ := by intro b hb; cases hb) : RO G ρ H' α' a mo := by
  cases mo with
  | lst ds => obtain ⟨vs, e, q⟩ := r; exact ⟨vs, h.trans e, q.nx n hs⟩
  | dct kvs => obtain ⟨vs, e, q1, q⟩ := r; exact ⟨vs, h.trans e, q1, q.nx n hs⟩
  | ins c fs => obtain ⟨dx, vs, e, q1, q⟩ := r; exact ⟨dx, vs, h.trans e, q1, q.nx n hs⟩
theorem RO.some {G : Gm} {H : Hp} {ρ α : List Addr} {a : Addr} {mo : MO} (r : RO G ρ H α a mo) : ∃ o, H a = some o := by
  cases mo with
  | lst ds => obtain ⟨vs, e, q⟩ := r; exact ⟨_, e⟩
  | dct kvs => obtain ⟨vs, e, q⟩ := r; exact ⟨_, e⟩
  | ins c fs => obtain ⟨dx, vs, e, q⟩ := r; exact ⟨_, e⟩
theorem RM.mem {G : Gm} {H : Hp} {ρ α : List Addr} {M : Mem} (r : RM G ρ H α M) {a : Addr} (ha : a ∈ α) : ∃ o, H a = some o := by
  obtain ⟨n, hn, e⟩ := List.getElem_of_mem ha
  have h1 : α[n]? = some a := by rw [List.getElem?_eq_getElem hn, e]
  have h2 : M[n]? = some (M[n]'(by rw [← r.len]; exact hn)) := List.getElem?_eq_getElem _
  exact (r.at_ n a _ h1 h2).some
/-- nothing numbered is touched -/
theorem RM.nx {G : Gm} {H H' : Hp} {ρ α : List Addr} {M : Mem} (r : RM G ρ H α M) (n : Nx [] α H α H') (h : ∀ a ∈ α, H' a = H a) (tb : LamX.Tabs G.cad.tabs H') : RM G ρ H' α M :=
  ⟨r.len, r.nd, fun b hb z => r.rho b hb (n.stay b z), tb, fun k a mo h1 h2 => (r.at_ k a mo h1 h2).nx n (h a (List.mem_of_getElem? h1))⟩
theorem RM.new {G : Gm} {H : Hp} {ρ α : List Addr} {M : Mem} {p : Addr} {o : HO} (r : RM G ρ H α M) (h : H p = none) : RM G ρ (upd H p o) α M :=
  r.nx (Nx.new h) (fun a ha => by
    obtain ⟨u, e⟩ := r.mem ha
    exact upd_ne (ne_of_none e h)) (tabs_new r.tab h)
/-- a new thing gets a number -/
theorem RM.num {G : Gm} {H : Hp} {ρ α : List Addr} {M : Mem} {p : Addr} {o : HO} {mo : MO} (r : RM G ρ H α M) (h : H p = none) (q : RO G ρ (upd H p o) (α ++ [p]) p mo) : RM G ρ (upd H p o) (α ++ [p]) (M ++ [mo]) := by
  have hp : p ∉ α := fun z => by obtain ⟨u, e⟩ := r.mem z; rw [h] at e; cases e
  refine ⟨by simp [r.len], ?_, fun b hb z => r.rho b hb ((Nx.num (ρ := []) (α := α) h).stay b z), tabs_new r.tab h, fun k a mo' h1 h2 => ?_⟩
  · exact List.nodup_append.mpr ⟨r.nd, by simp, fun a ha b hb z => hp (by rw [← List.mem_singleton.mp hb, ← z]; exact ha)⟩
  · by_cases hk : k < α.length
    · rw [List.getElem?_append_left hk] at h1
      rw [List.getElem?_append_left (by rw [← r.len]; exact hk)] at h2
      refine (r.at_ k a mo' h1 h2).nx (Nx.num (ρ := []) h) (upd_ne ?_)
      rintro rfl
      exact hp (List.mem_of_getElem? h1)
    · have hl := (List.getElem?_eq_some_iff.mp h1).1
      have e : k = α.length := by simp at hl; omega
      subst e
      rw [List.getElem?_append_right (Nat.le_refl _)] at h1
      rw [List.getElem?_append_right (by rw [r.len]; exact Nat.le_refl _)] at h2
      simp [r.len] at h1 h2
      subst h1 h2
      exact q
/-- a numbered thing is written -/
theorem RM.write {G : Gm} {H : Hp} {ρ α : List Addr} {M : Mem} {n : Nat} {p : Addr} {o : HO} {mo : MO} (r : RM G ρ H α M) (hp : α[n]? = some p) (q : RO G ρ (upd H p o) α p mo) : RM G ρ (upd H p o) α (M.set n mo) := by
  have hm := List.mem_of_getElem? hp
  have hl : n < M.length := by rw [← r.len]; exact (List.getElem?_eq_some_iff.mp hp).1
  obtain ⟨u, e, t1, t2⟩ := (r.at_ n p (M[n]'hl) hp (List.getElem?_eq_getElem hl)).num
  obtain ⟨u', e', t', _⟩ := q.num
  rw [upd_same] at e'; cases e'
  refine ⟨by simp [r.len], r.nd, fun b hb z => r.rho b hb ((Nx.write (ρ := []) (o := o) e hm t').stay b z), tabs_at r.tab e t1 t2, fun k a mo' h1 h2 => ?_⟩
  by_cases hk : n = k
  · subst hk
    rw [hp] at h1; cases h1
    have hl : n < M.length := by rw [← r.len]; exact (List.getElem?_eq_some_iff.mp hp).1
    rw [List.getElem?_set_self hl] at h2; cases h2
    exact q
  · rw [List.getElem?_set_ne hk] at h2
    refine (r.at_ k a mo' h1 h2).nx (Nx.write (ρ := []) e hm t') (upd_ne ?_)
    rintro rfl
    exact hk ((List.getElem_inj r.nd).mp ((List.getElem?_eq_some_iff.mp hp).2.trans (List.getElem?_eq_some_iff.mp h1).2.symm))
theorem RM.get {G : Gm} {H : Hp} {ρ α : List Addr} {M : Mem} (r : RM G ρ H α M) {n : Nat} {a : Addr} {mo : MO} (h1 : α[n]? = some a) (h2 : M[n]? = some mo) : RO G ρ H α a mo := r.at_ n a mo h1 h2

/-! ### slots -/
abbrev Dst := List (Option D)
def RS (G : Gm) (ρ : List Addr) (H : Hp) (α : List Addr) (δ : Dst) (σ : St) : Prop := δ.length = σ.length ∧ ∀ (i : Nat) d, δ[i]? = some (some d) → ∃ v, σ[i]? = some (some v) ∧ RD G ρ H α d v
theorem RS.nx {G : Gm} {H H' : Hp} {ρ α α' : List Addr} {δ : Dst} {σ : St} (r : RS G ρ H α δ σ) {χ : List Addr} (n : Nx χ α H α' H') (hs : ∀ b ∈ χ, b ∈ ρ := by intro b hb; cases hb) : RS G ρ H' α' δ σ :=
  ⟨r.1, fun i d h => let ⟨v, h1, h2⟩ := r.2 i d h; ⟨v, h1, h2.nx n hs⟩⟩
theorem RS.set {G : Gm} {H : Hp} {ρ α : List Addr} {δ : Dst} {σ : St} {d : D} {v : V} (r : RS G ρ H α δ σ) (q : RD G ρ H α d v) (i : Nat) : RS G ρ H α (δ.set i (some d)) (σ.set i (some v)) := by
  refine ⟨by simp [r.1], fun j e h => ?_⟩
  by_cases hj : i = j
  · subst hj
    have hl : i < δ.length := by have := (List.getElem?_eq_some_iff.mp h).1; simpa using this
    rw [List.getElem?_set_self hl] at h; cases h
    exact ⟨v, List.getElem?_set_self (by rw [← r.1]; exact hl), q⟩
  · rw [List.getElem?_set_ne hj] at h ⊢
    exact r.2 j e h
theorem RS.clear {G : Gm} {H : Hp} {ρ α : List Addr} {δ : Dst} {σ : St} (r : RS G ρ H α δ σ) (i : Nat) : RS G ρ H α (δ.set i none) (σ.set i none) := by
  refine ⟨by simp [r.1], fun j e h => ?_⟩
  by_cases hj : i = j
  · subst hj
    have hl : i < δ.length := by have := (List.getElem?_eq_some_iff.mp h).1; simpa using this
    rw [List.getElem?_set_self hl] at h; cases h
  · rw [List.getElem?_set_ne hj] at h ⊢
    exact r.2 j e h
def dwipe (δ : Dst) : List Nat → Dst
  | [] => δ
  | v :: vs => (dwipe δ vs).set v none
theorem RS.wipe {G : Gm} {H : Hp} {ρ α : List Addr} {δ : Dst} {σ : St} (r : RS G ρ H α δ σ) : ∀ vs, RS G ρ H α (dwipe δ vs) (wipe σ vs)
  | [] => r
  | v :: vs => (RS.wipe r vs).clear v

/-! ### readings, lifted -/
abbrev DK := D → Mem → Prop
abbrev XD := Nat → D → Mem → Prop
abbrev TD := Dst → Mem → DK → XD → Prop
abbrev TTD := Dst → Mem → (Bool → Mem → Prop) → XD → Prop
abbrev TAD := Dst → Mem → (List D → Mem → Prop) → XD → Prop
structure DE where
  nx : Dst → Mem → Prop
  rt : DK
  bk : Dst → Mem → Prop := fun _ _ => False
  ct : Dst → Mem → Prop := fun _ _ => False
  xc : Nat → D → Dst → Mem → Prop := fun _ _ _ _ => False
abbrev TSD := DE → Dst → Mem → Prop
section
variable (G : Gm) (W : WX)
/-- a value's wish, from where α, H stand -/
def wv (ρ α : List Addr) (H : Hp) (Q : VK) : DK := fun d M' => ∀ v H' α', Nx [] α H α' H' → RD G ρ H' α' d v → RM G ρ H' α' M' → Q v H'
def wb (ρ α : List Addr) (H : Hp) (Q : Bool → Hp → Prop) : Bool → Mem → Prop := fun b M' => ∀ H' α', Nx [] α H α' H' → RM G ρ H' α' M' → Q b H'
def wl (ρ α : List Addr) (H : Hp) (Q : List V → Hp → Prop) : List D → Mem → Prop := fun ds M' => ∀ vs H' α', Nx [] α H α' H' → RDs G ρ H' α' ds vs → RM G ρ H' α' M' → Q vs H'
def ws (ρ α : List Addr) (H : Hp) (Q : St → Hp → Prop) : Dst → Mem → Prop := fun δ' M' => ∀ σ' H' α', Nx [] α H α' H' → RS G ρ H' α' δ' σ' → RM G ρ H' α' M' → Q σ' H'
def wx (ρ α : List Addr) (H : Hp) (σ : St) : XD := fun c d M' => ∀ dx dv H' α', Nx [] α H α' H' → dx ∉ α' → dx ∉ ρ → H' dx = some (.xd [("value", dv)]) → RD G ρ H' α' d dv → RM G ρ H' α' M' → W (.ref (G.cad c)) (some dx) σ H'
def wxs (ρ α : List Addr) (H : Hp) : Nat → D → Dst → Mem → Prop := fun c d δ' M' => ∀ dx dv σ' H' α', Nx [] α H α' H' → dx ∉ α' → dx ∉ ρ → H' dx = some (.xd [("value", dv)]) → RD G ρ H' α' d dv → RS G ρ H' α' δ' σ' → RM G ρ H' α' M' → W (.ref (G.cad c)) (some dx) σ' H'
def up (t : TD) : TE := fun σ H Q => ∃ ρ δ α M Q' X', RS G ρ H α δ σ ∧ RM G ρ H α M ∧ t δ M Q' X' ∧ (∀ d M', Q' d M' → wv G ρ α H Q d M') ∧ (∀ c d M', X' c d M' → wx G W ρ α H σ c d M')
def upt (t : TTD) : TT := fun σ H Q => ∃ ρ δ α M Q' X', RS G ρ H α δ σ ∧ RM G ρ H α M ∧ t δ M Q' X' ∧ (∀ d M', Q' d M' → wb G ρ α H Q d M') ∧ (∀ c d M', X' c d M' → wx G W ρ α H σ c d M')
def upa (t : TAD) : TA := fun σ H Q => ∃ ρ δ α M Q' X', RS G ρ H α δ σ ∧ RM G ρ H α M ∧ t δ M Q' X' ∧ (∀ d M', Q' d M' → wl G ρ α H Q d M') ∧ (∀ c d M', X' c d M' → wx G W ρ α H σ c d M')
structure EL (ρ α : List Addr) (H : Hp) (E' : DE) (E : Ends) : Prop where
  nx : ∀ δ M, E'.nx δ M → ws G ρ α H E.nx δ M
  rt : ∀ d M, E'.rt d M → wv G ρ α H E.rt d M
  bk : ∀ δ M, E'.bk δ M → ws G ρ α H E.bk δ M
  ct : ∀ δ M, E'.ct δ M → ws G ρ α H E.ct δ M
  xc : ∀ c d δ M, E'.xc c d δ M → wxs G W ρ α H c d δ M
def ups (t : TSD) : TS := fun E σ H => ∃ ρ δ α M E', RS G ρ H α δ σ ∧ RM G ρ H α M ∧ t E' δ M ∧ EL G W ρ α H E' E
end
section
variable {G : Gm} {W : WX} {ρ α α1 : List Addr} {H H1 : Hp}
theorem wv.nx (n : Nx [] α H α1 H1) {Q : VK} {d : D} {M : Mem} (h : wv G ρ α H Q d M) : wv G ρ α1 H1 Q d M := fun v H' α' m r s => h v H' α' (n.trans m) r s
theorem wx.nx (n : Nx [] α H α1 H1) {σ : St} {c : Nat} {d : D} {M : Mem} (h : wx G W ρ α H σ c d M) : wx G W ρ α1 H1 σ c d M := fun dx dv H' α' m a b c r s => h dx dv H' α' (n.trans m) a b c r s
theorem wxs.nx (n : Nx [] α H α1 H1) {c : Nat} {d : D} {δ : Dst} {M : Mem} (h : wxs G W ρ α H c d δ M) : wxs G W ρ α1 H1 c d δ M := fun dx dv σ' H' α' m a b c r r' s => h dx dv σ' H' α' (n.trans m) a b c r r' s
theorem ws.nx (n : Nx [] α H α1 H1) {Q : St → Hp → Prop} {δ : Dst} {M : Mem} (h : ws G ρ α H Q δ M) : ws G ρ α1 H1 Q δ M := fun σ' H' α' m r s => h σ' H' α' (n.trans m) r s
theorem wl.nx (n : Nx [] α H α1 H1) {Q : List V → Hp → Prop} {d : List D} {M : Mem} (h : wl G ρ α H Q d M) : wl G ρ α1 H1 Q d M := fun v H' α' m r s => h v H' α' (n.trans m) r s
theorem wb.nx (n : Nx [] α H α1 H1) {Q : Bool → Hp → Prop} {d : Bool} {M : Mem} (h : wb G ρ α H Q d M) : wb G ρ α1 H1 Q d M := fun H' α' m s => h H' α' (n.trans m) s
end

section
variable {G : Gm} {W : WX} {ρ α α1 : List Addr} {H H1 : Hp}
theorem EL.nx' (n : Nx [] α H α1 H1) {E' : DE} {E : Ends} (h : EL G W ρ α H E' E) : EL G W ρ α1 H1 E' E :=
  ⟨fun d M q => (h.nx d M q).nx n, fun d M q => (h.rt d M q).nx n, fun d M q => (h.bk d M q).nx n, fun d M q => (h.ct d M q).nx n, fun c d δ M q => (h.xc c d δ M q).nx n⟩
end
/-! ### monotony at the level of the hand layer -/
theorem _root_.L2.PE.mono {X : Cx} {e : Expr} {t t' : TE} (h : PE X e t) (f : ∀ σ H Q, t' σ H Q → t σ H Q) : PE X e t' := ⟨fun pins s σ H Q I q => h.run pins s σ H Q I (f _ _ _ q)⟩
theorem _root_.L2.PT.mono {X : Cx} {e : Expr} {t t' : TT} (h : PT X e t) (f : ∀ σ H Q, t' σ H Q → t σ H Q) : PT X e t' := ⟨fun pins s σ H Q I q => h.run pins s σ H Q I (f _ _ _ q)⟩
theorem _root_.L2.PW.mono {X : Cx} {e : Expr} {t t' : TT} (h : PW X e t) (f : ∀ σ H Q, t' σ H Q → t σ H Q) : PW X e t' := ⟨fun wh pins s σ H Q I q => h.run wh pins s σ H Q I (f _ _ _ q)⟩
theorem _root_.L2.PA.mono {X : Cx} {e : List Expr} {t t' : TA} (h : PA X e t) (f : ∀ σ H Q, t' σ H Q → t σ H Q) : PA X e t' := ⟨fun p pins s σ H Q I q => h.run p pins s σ H Q I (f _ _ _ q)⟩
theorem _root_.L2.PS.mono {X : Cx} {e : Stmt} {t t' : TS} (h : PS X e t) (f : ∀ D σ H, t' D σ H → t D σ H) : PS X e t' := ⟨fun pins s σ H D I q => h.run pins s σ H D I (f _ _ _ q)⟩
theorem _root_.L2.PSs.mono {X : Cx} {e : List Stmt} {t t' : TS} (h : PSs X e t) (f : ∀ D σ H, t' D σ H → t D σ H) : PSs X e t' := ⟨fun pins s σ H D I q => h.run pins s σ H D I (f _ _ _ q)⟩
end AA
/-! AA2: the small language and what it asks (weakest preconditions). -/
namespace AA
open PySem PySem.Spec L2
open PyProof.Rows hiding St

inductive Bop where | add | sub | mul | fdiv | mod | pow | shl | shr | band
  deriving DecidableEq
inductive Cop where | lt | le | gt | ge | eq | ne | is | isnot | inn | notin
  deriving DecidableEq
inductive Bi where | len | abs | sum | all | any | min2 | max2 | min1 | max1 | int | list | tuple | repr | str | sorted
  deriving DecidableEq
inductive Ty where | int | bool | str | tuple | list | dict | own (c : Nat) | bi (n : String)
mutual
inductive T where | nm (i : Nat) | tp (ts : Ts)
inductive Ts where | nil | cons (t : T) (ts : Ts)
end
mutual
inductive E where
  | nop | var (i : Nat) | non | bl (b : Bool) | int (i : Int) | str (x : Str) | cst (k : Nat)
  | bin (op : Bop) (a b : E) | neg (a : E) | not_ (a : E) | and_ (a b : E) | or_ (a b : E) | ife (c a b : E)
  | cmp (op : Cop) (a b : E) | chain (op op' : Cop) (a b c : E)
  | tup (es : Es) | lst (m : Bool) (es : Es)
  | idx (a i : E) | slc (a : E) (lo hi : Op) | slcm (a : E) (lo hi : Op)
  | call (k : Nat) (es : Es) | callk (k : Nat) (es ks : Es) | bi (b : Bi) (es : Es) | isi (a : E) (t : Ty)
  | comp (m : Bool) (own : List (Str × Nat)) (t : T) (it : I) (c : Op) (e : E)
  | lsti (m : Bool) (a b : E)
  | lst3 (m : Bool) (a b c : E) | dic0 | rev (a : E) | revm (a : E) | lstm (a : E) | sset (a : E) | lenset (a : E) | catl (m : Bool) (a b : E)
  | fld (a : E) (x : Str)
  | attr (a : E) (x : Str) | mcall (k : Nat) (a : E) (es : Es) | prop (k : Nat) (a : E) | new (k : Nat) (es : Es) | isin (a : E) (c : Nat) | dnew | dget (a k d : E) | split (a e : E) | tupr (a b : E)
  | app (a e : E) | ext (a e : E) | pop (a : E) | popi (a i : E) | join (a e : E) | cnt (a e : E) | hear (k c : Nat) (e : E)
inductive Op where | no | so (e : E)
inductive Es where | nil | cons (e : E) (es : Es) | star (e : E) (es : Es)
inductive I where | seq (e : E) | rng1 (a : E) | rng2 (a b : E) | rng3 (a b c : E) | enum (a : E) | zip (a b : E) | chr (e : E)
end
mutual
inductive S where
  | ex (e : E) | asg (t : T) (e : E) | asgl (ts : Ts) (e : E) | asgc (i : Nat) (e : E) | par (i j : Nat) (a b : E) | par3 (i j l : Nat) (a b c : E)
  | seti (o i e : E) | sattr (o : E) (x : Str) (e : E) | sattrs (i : Nat) (xs : List Str) (e : E) | ret (e : E) | retn | if_ (c : E) (a b : Ss) | for_ (t : T) (it : I) (b : Ss) | while_ (c : E) (b : Ss)
  | rs (c : Nat) (e : E) | try_ (c : Nat) (i : Nat) (b : Ss) (j : Nat) | pass | brk | cont
inductive Ss where | nil | cons (s : S) (ss : Ss)
end

/-! ### data -/
def keyD : D → Option Key
  | .int i => some (.inl i)
  | .str x => some (.inr x)
  | _ => none
def keyV : Key → D
  | .inl i => .int i
  | .inr x => .str x
def valD (kvs : List (Key × D)) (k : Key) : Option D := (kvs.find? fun kv => decide (kv.1 = k)).map (·.2)
def putD (kvs : List (Key × D)) (k : Key) (v : D) : List (Key × D) :=
  if (kvs.any fun kv => decide (kv.1 = k)) = true then kvs.map (fun kv => if kv.1 = k then (kv.1, v) else kv) else kvs ++ [(k, v)]
/-- the attribute of an instance, in its place or at the end -/
def putA (x : Str) (v : D) : List (Str × D) → List (Str × D)
  | [] => [(x, v)]
  | (k, y) :: r => if k = x then (k, v) :: r else (k, y) :: putA x v r
mutual
def pd : D → Option PyData
  | .non => some .none
  | .bl b => some (.bool b)
  | .int i => some (.int i)
  | .str x => some (.str x)
  | .tup xs => match pds xs with | some ds => some (.tuple ds) | none => none
  | .lst xs => match pds xs with | some ds => some (.list ds) | none => none
  | _ => none
def pds : List D → Option (List PyData)
  | [] => some []
  | x :: xs => match pd x, pds xs with | some d, some ds => some (d :: ds) | _, _ => none
end
/-- the items of a list or tuple -/
def seqD (M : Mem) : D → Option (List D)
  | .tup xs => some xs
  | .lst xs => some xs
  | .ref n => match M[n]? with | some (.lst xs) => some xs | _ => none
  | _ => none
def truD (M : Mem) : D → Option Bool
  | .non => some false
  | .bl b => some b
  | .int i => some (i != 0)
  | .tup xs => some (!xs.isEmpty)
  | .lst xs => some (!xs.isEmpty)
  | .ref n => match M[n]? with | some (.lst xs) => some (!xs.isEmpty) | _ => none
  | _ => none
def lstD (M : Mem) : D → Option (List D)
  | .lst xs => some xs
  | .ref n => match M[n]? with | some (.lst xs) => some xs | _ => none
  | _ => none
def idxD (M : Mem) (x y : D) (k : D → Prop) : Prop :=
  match y with
  | .int j => (match x with
    | .str z => z.length ≤ 16777216 ∧ (match atI z.cps.toList j with | some c => k (.str ⟨#[c]⟩) | none => False)
    | _ => (match seqD M x with | some xs => (match atI xs j with | some d => k d | none => False) | none => (match x with
      | .ref n => (match M[n]? with | some (.dct kvs) => (match valD kvs (.inl j) with | some d => k d | none => False) | _ => False)
      | _ => False)))
  | .str z => (match x with
    | .ref n => (match M[n]? with | some (.dct kvs) => (match valD kvs (.inr z) with | some d => k d | none => False) | _ => False)
    | _ => False)
  | _ => False
def cutL (xs : List D) (l h : Option Int) : List D := (xs.drop (HT.sIx xs.length 0 l)).take (HT.sIx xs.length xs.length h - HT.sIx xs.length 0 l)
def slcD (M : Mem) (x : D) (l h : Option Int) (k : D → Prop) : Prop :=
  match x with
  | .ref n => (match M[n]? with | some (.lst xs) => k (.lst (cutL xs l h)) | _ => False)
  | .tup xs => k (.tup (cutL xs l h))
  | .lst xs => k (.lst (cutL xs l h))
  | .str z => z.length ≤ 16777216 ∧ k (.str (cutS z l h))
  | _ => False
/-- data as it stands: a numbered list too -/
def pdM (M : Mem) : D → Option PyData
  | .ref n => match M[n]? with
    | some (.lst xs) => (match pds xs with | some ds => some (.list ds) | none => none)
    | _ => none
  | d => pd d
def isTupD : D → Bool
  | .tup _ => true | _ => false
def asInt (x : D) (k : Int → Prop) : Prop :=
  match x with
  | .int i => k i
  | _ => False
def asBl (x : D) (k : Bool → Prop) : Prop :=
  match x with
  | .bl i => k i
  | _ => False
def asTru (M : Mem) (x : D) (k : Bool → Prop) : Prop :=
  match truD M x with
  | some b => k b
  | none => False
def asSeq (M : Mem) (x : D) (k : List D → Prop) : Prop :=
  match seqD M x with
  | some b => k b
  | none => False
def asLst (M : Mem) (x : D) (k : List D → Prop) : Prop :=
  match lstD M x with
  | some b => k b
  | none => False
def slotD (δ : List (Option D)) (i : Nat) (k : D → Prop) : Prop :=
  match δ[i]? with
  | some (some d) => k d
  | _ => False
def cstD (l : List (Str × D)) (i : Nat) (k : D → Prop) : Prop :=
  match l[i]? with
  | some c => k c.2
  | none => False
def numL (M : Mem) (x : D) (k : Nat → List D → Prop) : Prop :=
  match x with
  | .ref n => (match M[n]? with | some (.lst xs) => k n xs | _ => False)
  | _ => False
/-- a dict -/
def dctD (M : Mem) (x : D) (k : Nat → List (Key × D) → Prop) : Prop :=
  match x with
  | .ref n => (match M[n]? with | some (.dct kvs) => k n kvs | _ => False)
  | _ => False
/-- x.get(y, z) -/
def dgetD (M : Mem) (x y z : D) (k : D → Prop) : Prop :=
  dctD M x fun _ kvs => match keyD y with | some key => k ((valD kvs key).getD z) | none => False
def setiD (xs : List D) (i : Int) (k : Nat → Prop) : Prop :=
  match ixN xs.length i with
  | some j => k j
  | none => False
/-- x[y] = v -/
def putiD (M : Mem) (x y v : D) (k : Mem → Prop) : Prop :=
  match x with
  | .ref n => (match M[n]? with
    | some (.lst xs) => (match y with | .int i => setiD xs i fun j => k (M.set n (.lst (xs.set j v))) | _ => False)
    | some (.dct kvs) => (match keyD y with | some key => kvs.length < 16777216 ∧ k (M.set n (.dct (putD kvs key v))) | none => False)
    | _ => False)
  | _ => False
def tupD (x : D) (k : List D → Prop) : Prop :=
  match x with
  | .tup xs => k xs
  | _ => False
def popD (xs : List D) (k : D → List D → Prop) : Prop :=
  match xs.getLast? with
  | some y => k y xs.dropLast
  | none => False
def popiD (xs : List D) (j : Int) (k : D → List D → Prop) : Prop :=
  0 ≤ j ∧ j < xs.length ∧ xs.length ≤ 16777216 ∧ ∀ y, xs[j.toNat]? = some y → k y (xs.eraseIdx j.toNat)
def twoD (ds : List D) (k : D → D → Prop) : Prop :=
  match ds with
  | [x, y] => k x y
  | _ => False
def threeD (ds : List D) (k : D → D → D → Prop) : Prop :=
  match ds with
  | [x, y, z] => k x y z
  | _ => False
def fldD (nc : Nat) (x : Str) (d : D) (k : D → Prop) : Prop :=
  match d with
  | .exc c v => c < nc ∧ x = "value" ∧ k v
  | _ => False
def intD : D → Option Int
  | .int i => some i
  | _ => none
def intsD : List D → Option (List Int)
  | [] => some []
  | .int i :: r => match intsD r with | some is => some (i :: is) | none => none
  | _ :: _ => none
def asInts (xs : List D) (k : List Int → Prop) : Prop :=
  match intsD xs with
  | some is => k is
  | none => False
def blsD : List D → Option (List Bool)
  | [] => some []
  | .bl i :: r => match blsD r with | some is => some (i :: is) | none => none
  | _ :: _ => none
def strsD : List D → Option (List Str)
  | [] => some []
  | .str i :: r => match strsD r with | some is => some (i :: is) | none => none
  | _ :: _ => none
/-- x in a list or tuple -/
def inL (M : Mem) (x y : D) (k : Bool → Prop) : Prop :=
  match seqD M y with
  | some ys => (match x with
    | .str a => (match strsD ys with | some ss => k (decide (a ∈ ss)) | none => False)
    | .int i => (match intsD ys with | some is => k (decide (i ∈ is)) | none => False)
    | .non => (match pdM M y with | some (.list ds) => SeqAt.shaped (.list ds) = true ∧ k (ds.any fun z => PyData.eqv z .none) | _ => False)
    | _ => False)
  | none => False
/-- no item is numbered or an exception's -/
def flatD : D → Bool
  | .non => true | .bl _ => true | .int _ => true | .str _ => true | _ => false
def isNon : D → Bool
  | .non => true | _ => false
/-- x in y -/
def inD (M : Mem) (x y : D) (k : Bool → Prop) : Prop :=
  match y with
  | .str b => (match x with | .str a => k (!(Builtin.Str.occurrences b a 0 b.length 1).isEmpty) | _ => False)
  | .ref n => (match M[n]? with
    | some (.dct kvs) => (match keyD x with | some key => k (valD kvs key).isSome | none => False)
    | _ => inL M x y k)
  | _ => inL M x y k
/-- a text again and again -/
def repS (a : Str) (n : Nat) : Str := ⟨(List.replicate n a.cps).foldl (· ++ ·) #[]⟩
/-- the signs of a text -/
def chrsD (z : Str) : List D := z.cps.toList.map fun c => .str ⟨#[c]⟩
def joinD (M : Mem) (x y : D) (k : Str → Prop) : Prop :=
  match x, seqD M y with
  | .str a, some ys => (match strsD ys with | some ss => (ss.map (·.length)).sum + ss.length * a.length ≤ 16777216 ∧ k (Txt.join a ss) | none => False)
  | _, _ => False
def cntD (x y : D) (k : Int → Prop) : Prop :=
  match x, y with
  | .str a, .str b => k (Txt.count a b)
  | _, _ => False
def asStr (x : D) (k : Str → Prop) : Prop :=
  match x with
  | .str i => k i
  | _ => False
def rngC (lo c : Int) (n : Nat) : List D := (List.range n).map fun i => D.int (lo + (i : Nat) * c)
def MulOk (i j : Int) : Prop := CMul i j ∨ CMulW i j
def DivOk (j : Int) : Prop := 0 < j ∧ (j < 1073741824 ∨ j.natAbs.log2 < 9000)
def PowOk (i j : Int) : Prop := 0 ≤ j ∧ ((i.natAbs.log2 : Int) + 1) * j ≤ 2 ^ 27

def binD (op : Bop) (x y : D) (k : D → Prop) : Prop :=
  match op, x, y with
  | .add, .int i, .int j => k (.int (i + j))
  | .add, .str a, .str b => a.length + b.length ≤ 16777216 ∧ k (.str (a ++ b))
  | .add, .tup xs, .tup ys => xs.length + ys.length ≤ 16777216 ∧ k (.tup (xs ++ ys))
  | .sub, .int i, .int j => k (.int (i - j))
  | .mul, .int i, .int j => MulOk i j ∧ k (.int (i * j))
  | .mul, .tup xs, .int j => (xs ≠ [] ∧ 2 ≤ j ∧ j ≤ 1000 ∧ xs.length ≤ 1000) ∧ k (.tup (List.replicate j.toNat xs).flatten)
  | .mul, .str a, .int j => (0 ≤ j ∧ j ≤ 16777216 ∧ a.length * j.toNat ≤ 16777216) ∧ k (.str (repS a j.toNat))
  | .fdiv, .int i, .int j => DivOk j ∧ k (.int (i / j))
  | .mod, .int i, .int j => 0 < j ∧ k (.int (i % j))
  | .pow, .int i, .int j => PowOk i j ∧ k (.int (i ^ j.toNat))
  | _, _, _ => False
def revD (x : D) (k : D → Prop) : Prop :=
  match x with
  | .tup xs => k (.tup xs.reverse)
  | _ => False
/-- tuples of whole numbers, one no greater than the other -/
def leT (ns ms : List Int) : Bool := Ob.lexAt (fun j => decide (ns.getD j 0 = ms.getD j 0)) (fun j => decide (ns.getD j 0 ≤ ms.getD j 0)) (decide (ns.length ≤ ms.length)) 0 (min ns.length ms.length)
def leTD (xs ys : List D) (k : Bool → Prop) : Prop :=
  match intsD xs, intsD ys with
  | some ns, some ms => k (leT ns ms)
  | _, _ => False
def leD (x y : D) (k : Bool → Prop) : Prop :=
  match x, y with
  | .int i, .int j => k (decide (i ≤ j))
  | .tup xs, .tup ys => leTD xs ys k
  | _, _ => False
theorem leD.inv {x y : D} {k : Bool → Prop} (h : leD x y k) : (∃ i j, x = .int i ∧ y = .int j ∧ k (decide (i ≤ j))) ∨ ∃ xs ys ns ms, x = .tup xs ∧ y = .tup ys ∧ intsD xs = some ns ∧ intsD ys = some ms ∧ k (leT ns ms) := by
  unfold leD at h
  split at h
  · exact .inl ⟨_, _, rfl, rfl, h⟩
  · unfold leTD at h
    split at h
    · exact .inr ⟨_, _, _, _, rfl, rfl, by assumption, by assumption, h⟩
    · exact h.elim
  · exact h.elim
def dicD (M : Mem) (n : Nat) (k : Bool → Prop) : Prop :=
  match M[n]? with
  | some (.dct kvs) => k kvs.isEmpty
  | _ => False
theorem dicD.inv {M : Mem} {n : Nat} {k : Bool → Prop} (h : dicD M n k) : ∃ kvs, M[n]? = some (.dct kvs) ∧ k kvs.isEmpty := by
  unfold dicD at h
  split at h
  · exact ⟨_, by assumption, h⟩
  · exact h.elim
def cmpD (op : Cop) (M : Mem) (x y : D) (k : Bool → Prop) : Prop :=
  match op with
  | .lt => match x, y with | .int i, .int j => k (decide (i < j)) | _, _ => False
  | .le => leD x y k
  | .gt => match x, y with | .int i, .int j => k (decide (j < i)) | _, _ => False
  | .ge => match x, y with | .int i, .int j => k (decide (j ≤ i)) | _, _ => False
  | .eq => match x, y with | .str a, .str b => k (decide (a = b)) | .ref n, .dic0 => dicD M n k | _, _ => match pdM M x, pdM M y with | some d, some e => SeqAt.shaped d = true ∧ SeqAt.shaped e = true ∧ k (PyData.eqv d e) | _, _ => False
  | .ne => match x, y with | .str a, .str b => k (!decide (a = b)) | .ref n, .dic0 => dicD M n fun b => k (!b) | _, _ => match pdM M x, pdM M y with | some d, some e => SeqAt.shaped d = true ∧ SeqAt.shaped e = true ∧ k (!PyData.eqv d e) | _, _ => False
  | .is => match x, y with | .non, .non => k true | _, .non => k false | _, _ => False
  | .isnot => match x, y with | .non, .non => k false | _, .non => k true | _, _ => False
  | .inn => inD M x y k
  | .notin => inD M x y fun b => k (!b)
def isiD (nc : Nat) (t : Ty) (x : D) (M : Mem) (sub : Nat → Nat → Bool) (k : Bool → Prop) : Prop :=
  match t, x with
  | .int, .int _ => k true | .int, .bl _ => k true | .int, .ref n => (match M[n]? with | some (.lst _) => k false | _ => False) | .int, .exc _ _ => False | .int, _ => k false
  | .bool, .bl _ => k true | .bool, .ref n => (match M[n]? with | some (.lst _) => k false | _ => False) | .bool, .exc _ _ => False | .bool, _ => k false
  | .str, .str _ => k true | .str, .ref n => (match M[n]? with | some (.lst _) => k false | _ => False) | .str, .exc _ _ => False | .str, _ => k false
  | .tuple, .tup _ => k true | .tuple, .ref n => (match M[n]? with | some (.lst _) => k false | _ => False) | .tuple, .exc _ _ => False | .tuple, _ => k false
  | .list, .lst _ => k true | .list, .ref n => (match M[n]? with | some (.lst _) => k true | _ => False) | .list, .exc _ _ => False | .list, _ => k false
  | .own c, .exc c' _ => c' < nc ∧ k (sub c' c)
  | .own _, .ref n => (match M[n]? with | some (.lst _) => k false | _ => False)
  | .own _, _ => k false
  | .bi n, .exc c' _ => c' < nc ∧ n = "ValueError" ∧ k true
  | .bi n, .non => n = "ValueError" ∧ k false
  | _, _ => False
/-- what may be shown -/
def ReprOk (p : PyData) : Prop := p.showable = true ∧ p.hasDict = false ∧ p.depth ≤ 40 ∧ p.shown.length ≤ 16777216
/-- built-in functions -/
def biD (rp : PyData → Str) (b : Bi) (ds : List D) (M : Mem) (k : D → Prop) : Prop :=
  match b, ds with
  | .len, [.str z] => z.length ≤ 16777216 ∧ k (.int z.length)
  | .len, [.ref n] => (match M[n]? with | some (.lst xs) => k (.int xs.length) | some (.dct kvs) => k (.int kvs.length) | _ => False)
  | .len, [d] => (match seqD M d with | some xs => k (.int xs.length) | none => False)
  | .abs, [.int i] => k (.int (if i < 0 then -i else i))
  | .sum, [d] => (match lstD M d with | some xs => (match intsD xs with | some is => k (.int is.sum) | none => False) | none => False)
  | .all, [d] => (match lstD M d with | some xs => (match blsD xs with | some is => k (.bl (is.all id)) | none => False) | none => False)
  | .any, [d] => (match lstD M d with | some xs => (match blsD xs with | some is => k (.bl (is.any id)) | none => False) | none => False)
  | .min2, [.int m, .int n] => k (.int (if n < m then n else m))
  | .max2, [.int m, .int n] => k (.int (if n > m then n else m))
  | .int, [.int i] => k (.int i)
  | .int, [.bl b] => k (.int (b2i b))
  | .int, [.str z] => (match PySem.intText? z with | some n => z.length ≤ 640 ∧ k (.int n) | none => False)
  | .tuple, [.tup xs] => k (.tup xs)
  | .tuple, [.lst xs] => k (.tup xs)
  | .tuple, [.ref n] => (match M[n]? with | some (.lst xs) => k (.tup xs) | some (.dct kvs) => k (.tup (kvs.map fun kv => keyV kv.1)) | _ => False)
  | .list, [.tup xs] => k (.lst xs)
  | .list, [.lst xs] => k (.lst xs)
  | .list, [.ref n] => (match M[n]? with | some (.lst xs) => k (.lst xs) | _ => False)
  | .min1, [d] => (match seqD M d with | some xs => (match intsD xs with | some is => is ≠ [] ∧ ∀ m, m ∈ is → (∀ y, y ∈ is → m ≤ y) → k (.int m) | none => False) | none => False)
  | .max1, [d] => (match seqD M d with | some xs => (match intsD xs with | some is => is ≠ [] ∧ ∀ m, m ∈ is → (∀ y, y ∈ is → y ≤ m) → k (.int m) | none => False) | none => False)
  | .str, [.int i] => i.natAbs.log2 < 1920 ∧ k (.str (toString i))
  | .sorted, [d] => (match lstD M d with | some xs => (match intsD xs with | some is => ∀ js : List Int, js.Perm is → js.Pairwise (· ≤ ·) → k (.lst (js.map D.int)) | none => False) | none => False)
  | .repr, [d] => (match pdM M d with | some p => ReprOk p ∧ k (.str (rp p)) | none => False)
  | _, _ => False
def bindT : T → D → Dst → Option Dst
  | .nm i, d, δ => some (δ.set i (some d))
  | .tp ts, .tup xs, δ => bindTs ts xs δ
  | .tp ts, .lst xs, δ => bindTs ts xs δ
  | _, _, _ => none
where bindTs : Ts → List D → Dst → Option Dst
  | .nil, [], δ => some δ
  | .cons t ts, x :: xs, δ => match bindT t x δ with | some δ' => bindTs ts xs δ' | none => none
  | _, _, _ => none
def rngL (lo : Int) (n : Nat) : List D := (List.range n).map fun i => D.int (lo + (i : Nat))
def RgB (i : Int) : Prop := -(2 ^ 62) ≤ i ∧ i < 2 ^ 62
def enumL (xs : List D) : List D := xs.zipIdx.map fun p => .tup [.int (p.2 : Nat), p.1]
def zipL (xs ys : List D) : List D := (xs.zip ys).map fun p => .tup [p.1, p.2]

/-! ### what is asked -/
abbrev DSp := List D → Mem → DK → XD → Prop
/-- how a def stands in a class -/
inductive MK where | init | meth | prop
  deriving DecidableEq
structure Fn where
  name : Str
  par : List Str
  kw : Bool
  sp : DSp
  own : Option (Nat × MK × Str)
structure Tab where
  cst : List (Str × D)
  fn : List Fn
  cls : List Str
  sub : Nat → Nat → Bool
  rp : PyData → Str
  lams : List (List Str)
  ats : List (Nat × Str)
  ins : List (Nat × Str)
/-- a stay: what a walked thing must keep -/
def stayD (d : D) (xs : List D) (M : Mem) : Prop := seqD M d = some xs
def callD (l : List Fn) (k : Nat) (ds : List D) (M : Mem) (Q : DK) (X : XD) : Prop :=
  match l[k]? with
  | some f => ds.length = f.par.length ∧ f.sp ds M Q X
  | none => False
/-- an instance of a class -/
def insD (M : Mem) (x : D) (k : Nat → Nat → List (Str × D) → Prop) : Prop :=
  match x with
  | .ref n => (match M[n]? with | some (.ins c fs) => k n c fs | _ => False)
  | _ => False
def lookA (fs : List (Str × D)) (x : Str) : Option D := fs.lookup x
def attrD (ats : List (Nat × Str)) (M : Mem) (x : D) (f : Str) (k : D → Prop) : Prop :=
  insD M x fun _ c fs => (c, f) ∈ ats ∧ (match lookA fs f with | some d => k d | none => False)
/-- a method's or a getter's call: the k-th def stands in the class of x -/
def ownD (l : List Fn) (k : Nat) (kd : MK) (c : Nat) (p : Prop) : Prop :=
  match l[k]? with
  | some f => (match f.own with | some (c', kd', _) => c' = c ∧ kd' = kd ∧ p | none => False)
  | none => False
def nameD (l : List Fn) (k : Nat) : Str :=
  match l[k]? with
  | some f => (match f.own with | some (_, _, m) => m | none => Str.empty)
  | none => Str.empty
/-- the class that the k-th def makes -/
def clsD (l : List Fn) (k : Nat) (p : Nat → Prop) : Prop :=
  match l[k]? with
  | some f => (match f.own with | some (c, .init, _) => p c | _ => False)
  | none => False
def isinD (M : Mem) (x : D) (c : Nat) (k : Bool → Prop) : Prop :=
  match x with
  | .ref n => (match M[n]? with | some (.ins c' _) => c' = c ∧ k true | some (.lst _) => k false | some (.dct _) => k false | none => False)
  | .exc _ _ => False
  | _ => k false
def splitD (x y : D) (k : List D → Prop) : Prop :=
  match x, y with
  | .str a, .str b => (b.length == 0) = false ∧ a.length + 2 ≤ 16777216 ∧ k ((Txt.split a b).map D.str)
  | _, _ => False
/-- several attributes of one instance -/
def putsA : List Str → List D → List (Str × D) → Option (List (Str × D))
  | [], [], fs => some fs
  | x :: xs, d :: ds, fs => putsA xs ds (putA x d fs)
  | _, _, _ => none
def bndD (o : Option (List (Option D))) (k : List (Option D) → Prop) : Prop :=
  match o with
  | some δ => k δ
  | none => False
abbrev IK := List D → (Mem → Prop) → Mem → Prop
def forD (b : D → Dst → Option Dst) (body : TSD) (stay : Mem → Prop) (E : DE) : List D → Dst → Mem → Prop
  | [], δ, M => stay M ∧ E.nx δ M
  | d :: ds, δ, M => stay M ∧ bndD (b d δ) fun δ' => body { E with nx := forD b body stay E ds, ct := forD b body stay E ds, bk := E.nx } δ' M
def whileN (c : TTD) (body : TSD) (E : DE) : Nat → Dst → Mem → Prop
  | 0, _, _ => False
  | n + 1, δ, M => c δ M (fun b M' => if b = true then body { E with nx := whileN c body E n, ct := whileN c body E n, bk := E.nx } δ M' else E.nx δ M') (fun _ _ _ => False)
def compD (b : D → Dst → Option Dst) (c : TTD) (e : TD) (stay : Mem → Prop) (δ : Dst) (Q : List D → Mem → Prop) : List D → List D → Mem → Prop
  | [], acc, M => stay M ∧ Q acc M
  | d :: ds, acc, M => stay M ∧ bndD (b d δ) fun δ' => c δ' M (fun t M1 => if t = true then e δ' M1 (fun y M2 => acc.length < 16777216 ∧ compD b c e stay δ Q ds (acc ++ [y]) M2) (fun _ _ _ => False) else compD b c e stay δ Q ds acc M1) (fun _ _ _ => False)
section
variable (Γ : Tab)
mutual
def wpE : E → TD
  | .nop => fun _ _ _ _ => False
  | .var i => fun δ M Q _ => slotD δ i fun d => Q d M
  | .non => fun _ M Q _ => Q .non M
  | .bl b => fun _ M Q _ => Q (.bl b) M
  | .int i => fun _ M Q _ => Q (.int i) M
  | .str x => fun _ M Q _ => Q (.str x) M
  | .cst k => fun _ M Q _ => cstD Γ.cst k fun d => Q d M
  | .bin op a b => fun δ M Q X => wpE a δ M (fun x M1 => wpE b δ M1 (fun y M2 => binD op x y fun z => Q z M2) X) X
  | .neg a => fun δ M Q X => wpE a δ M (fun x M1 => asInt x fun i => Q (.int (-i)) M1) X
  | .not_ a => fun δ M Q X => wpE a δ M (fun x M1 => asTru M1 x fun b => Q (.bl (!b)) M1) X
  | .and_ a b => fun δ M Q X => wpE a δ M (fun x M1 => asBl x fun c => if c = true then wpE b δ M1 Q X else Q (.bl false) M1) X
  | .or_ a b => fun δ M Q X => wpE a δ M (fun x M1 => asBl x fun c => if c = true then Q (.bl true) M1 else wpE b δ M1 Q X) X
  | .ife c a b => fun δ M Q X => wpT c δ M (fun t M1 => if t = true then wpE a δ M1 Q X else wpE b δ M1 Q X) X
  | .cmp op a b => fun δ M Q X => wpE a δ M (fun x M1 => wpE b δ M1 (fun y M2 => cmpD op M2 x y fun t => Q (.bl t) M2) X) X
  | .chain op op' a b c => fun δ M Q X => wpE a δ M (fun x M1 => wpE b δ M1 (fun y M2 => cmpD op M2 x y fun t => if t = true then wpE c δ M2 (fun z M3 => cmpD op' M3 y z fun u => Q (.bl u) M3) X else Q (.bl false) M2) X) X
  | .tup es => fun δ M Q X => wpEs es δ M (fun ds M1 => ds.length ≤ 16777216 ∧ Q (.tup ds) M1) X
  | .lst false es => fun δ M Q X => wpEs es δ M (fun ds M1 => ds.length ≤ 16777216 ∧ Q (.lst ds) M1) X
  | .lst true es => fun δ M Q X => wpEs es δ M (fun ds M1 => ds.length ≤ 16777216 ∧ Q (.ref M1.length) (M1 ++ [.lst ds])) X
  | .idx a i => fun δ M Q X => wpE a δ M (fun x M1 => wpE i δ M1 (fun y M2 => idxD M2 x y fun d => Q d M2) X) X
  | .slc a lo hi => fun δ M Q X => wpE a δ M (fun x M1 => wpO lo δ M1 (fun l M2 => wpO hi δ M2 (fun h M3 => slcD M3 x l h fun d => Q d M3) X) X) X
  | .slcm a lo hi => fun δ M Q X => wpE a δ M (fun x M1 => wpO lo δ M1 (fun l M2 => wpO hi δ M2 (fun h M3 => asLst M3 x fun xs => Q (.ref M3.length) (M3 ++ [.lst (cutL xs l h)])) X) X) X
  | .call k es => fun δ M Q X => wpEs es δ M (fun ds M1 => callD Γ.fn k ds M1 Q X) X
  | .callk k es ks => fun δ M Q X => wpEs es δ M (fun ds M1 => wpEs ks δ M1 (fun cs M2 => callD Γ.fn k (ds ++ cs) M2 Q X) X) X
  | .bi b es => fun δ M Q X => wpEs es δ M (fun ds M1 => biD Γ.rp b ds M1 fun d => Q d M1) X
  | .isi a t => fun δ M Q X => wpE a δ M (fun x M1 => isiD Γ.cls.length t x M1 Γ.sub fun b => Q (.bl b) M1) X
  | .comp false own t it c e => fun δ M Q X => wpI it δ M (fun xs stay M1 => compD (bindT t) (wpC c) (wpE e) stay (dwipe δ (own.map (·.2))) (fun ys M2 => Q (.lst ys) M2) xs [] M1) X
  | .comp true own t it c e => fun δ M Q X => wpI it δ M (fun xs stay M1 => compD (bindT t) (wpC c) (wpE e) stay (dwipe δ (own.map (·.2))) (fun ys M2 => Q (.ref M2.length) (M2 ++ [.lst ys])) xs [] M1) X
  | .lsti m a b => fun δ M Q X => wpE a δ M (fun x M1 => wpE b δ M1 (fun y M2 => asInt x fun i => asInt y fun j => RgB i ∧ RgB j ∧ (j - i).toNat ≤ 16777216 ∧ (if m = true then Q (.ref M2.length) (M2 ++ [.lst (rngL i (j - i).toNat)]) else Q (.lst (rngL i (j - i).toNat)) M2)) X) X
  | .attr a x => fun δ M Q X => wpE a δ M (fun d M1 => attrD Γ.ats M1 d x fun v => Q v M1) X
  | .mcall k a es => fun δ M Q X => wpE a δ M (fun x M1 => insD M1 x fun _ c fs => ownD Γ.fn k .meth c (lookA fs (nameD Γ.fn k) = none ∧ wpEs es δ M1 (fun ds M2 => callD Γ.fn k (x :: ds) M2 Q X) X)) X
  | .prop k a => fun δ M Q X => wpE a δ M (fun x M1 => insD M1 x fun _ c _ => ownD Γ.fn k .prop c (callD Γ.fn k [x] M1 Q fun _ _ _ => False)) X
  | .new k es => fun δ M Q X => wpEs es δ M (fun ds M1 => clsD Γ.fn k fun c => callD Γ.fn k (.ref M1.length :: ds) (M1 ++ [.ins c []]) (fun v M2 => v = .non ∧ Q (.ref M1.length) M2) X) X
  | .isin a c => fun δ M Q X => wpE a δ M (fun x M1 => isinD M1 x c fun b => Q (.bl b) M1) X
  | .dget a k d => fun δ M Q X => wpE a δ M (fun x M1 => dctD M1 x fun _ _ => wpE k δ M1 (fun y M2 => wpE d δ M2 (fun z M3 => dgetD M3 x y z fun v => Q v M3) X) X) X
  | .dnew => fun _ M Q _ => Q (.ref M.length) (M ++ [.dct []])
  | .split a e => fun δ M Q X => wpE a δ M (fun x M1 => asStr x fun _ => wpE e δ M1 (fun y M2 => splitD x y fun ys => Q (.ref M2.length) (M2 ++ [.lst ys])) X) X
  | .tupr a b => fun δ M Q X => wpE a δ M (fun x M1 => wpE b δ M1 (fun y M2 => asInt x fun i => asInt y fun j => RgB i ∧ RgB j ∧ (j - i).toNat ≤ 16777216 ∧ Q (.tup (rngL i (j - i).toNat)) M2) X) X
  | .dic0 => fun _ M Q _ => Q .dic0 M
  | .rev a => fun δ M Q X => wpE a δ M (fun x M1 => revD x fun z => Q z M1) X
  | .lstm a => fun δ M Q X => wpE a δ M (fun x M1 => asSeq M1 x fun xs => Q (.ref M1.length) (M1 ++ [.lst xs])) X
  | .revm a => fun δ M Q X => wpE a δ M (fun x M1 => asLst M1 x fun xs => Q (.ref M1.length) (M1 ++ [.lst xs.reverse])) X
  | .sset a => fun δ M Q X => wpE a δ M (fun x M1 => asLst M1 x fun xs => asInts xs fun is => is.length ≤ 60 ∧ ∀ js : List Int, js.Pairwise (· < ·) → (∀ k : Int, k ∈ js ↔ k ∈ is) → Q (.lst (js.map D.int)) M1) X
  | .lenset a => fun δ M Q X => wpE a δ M (fun x M1 => asLst M1 x fun xs => asInts xs fun is => is.Nodup ∧ is.length ≤ 4000 ∧ Q (.int (is.length : Nat)) M1) X
  | .catl m a b => fun δ M Q X => wpE a δ M (fun x M1 => wpE b δ M1 (fun y M2 => numL M2 x fun _ xs => numL M2 y fun _ ys => xs.length + ys.length ≤ 16777216 ∧ if m = true then Q (.ref M2.length) (M2 ++ [.lst (xs ++ ys)]) else Q (.lst (xs ++ ys)) M2) X) X
  | .lst3 m a b c => fun δ M Q X => wpE a δ M (fun x M1 => wpE b δ M1 (fun y M2 => wpE c δ M2 (fun z M3 => asInt x fun i => asInt y fun j => asInt z fun l => ∃ n, RgC i j l n ∧ n ≤ 16777216 ∧ (if m = true then Q (.ref M3.length) (M3 ++ [.lst (rngC i l n)]) else Q (.lst (rngC i l n)) M3)) X) X) X
  | .fld a x => fun δ M Q X => wpE a δ M (fun d M1 => fldD Γ.cls.length x d fun v => Q v M1) X
  | .app a e => fun δ M Q X => wpE a δ M (fun x M1 => numL M1 x fun _ _ => wpE e δ M1 (fun y M2 => numL M2 x fun n xs => xs.length < 16777216 ∧ Q .non (M2.set n (.lst (xs ++ [y])))) X) X
  | .ext a e => fun δ M Q X => wpE a δ M (fun x M1 => numL M1 x fun _ _ => wpE e δ M1 (fun y M2 => numL M2 x fun n xs => numL M2 y fun _ ys => xs.length + ys.length ≤ 16777216 ∧ Q .non (M2.set n (.lst (xs ++ ys)))) X) X
  | .join a e => fun δ M Q X => wpE a δ M (fun x M1 => asStr x fun _ => wpE e δ M1 (fun y M2 => joinD M2 x y fun z => Q (.str z) M2) X) X
  | .cnt a e => fun δ M Q X => wpE a δ M (fun x M1 => asStr x fun _ => wpE e δ M1 (fun y M2 => cntD x y fun z => Q (.int z) M2) X) X
  | .hear k c e => fun δ M Q X => wpE e δ M (fun x M1 => Q (.tup [.non, x]) M1) (fun c' d M1 => c' < Γ.cls.length ∧ Γ.sub c' c = true ∧ Q (.tup [.exc c' d, .non]) M1)
  | .pop a => fun δ M Q X => wpE a δ M (fun x M1 => numL M1 x fun n xs => popD xs fun y ys => Q y (M1.set n (.lst ys))) X
  | .popi a i => fun δ M Q X => wpE a δ M (fun x M1 => numL M1 x fun _ _ => wpE i δ M1 (fun z M2 => numL M2 x fun n xs => asInt z fun j => popiD xs j fun y ys => Q y (M2.set n (.lst ys))) X) X
/-- a test -/
def wpT : E → TTD
  | .and_ a b => fun δ M Q X => wpT a δ M (fun c M1 => if c = true then wpT b δ M1 Q X else Q false M1) X
  | .or_ a b => fun δ M Q X => wpT a δ M (fun c M1 => if c = true then Q true M1 else wpT b δ M1 Q X) X
  | .not_ a => fun δ M Q X => wpT a δ M (fun c M1 => Q (!c) M1) X
  | .cmp op a b => fun δ M Q X => wpE a δ M (fun x M1 => wpE b δ M1 (fun y M2 => cmpD op M2 x y fun t => Q t M2) X) X
  | .chain op op' a b c => fun δ M Q X => wpE a δ M (fun x M1 => wpE b δ M1 (fun y M2 => cmpD op M2 x y fun t => if t = true then wpE c δ M2 (fun z M3 => cmpD op' M3 y z fun u => Q u M3) X else Q false M2) X) X
  | .var i => fun δ M Q _ => slotD δ i fun d => asTru M d fun b => Q b M
  | .bl b => fun _ M Q _ => Q b M
  | .call k es => fun δ M Q X => wpEs es δ M (fun ds M1 => callD Γ.fn k ds M1 (fun d M2 => asTru M2 d fun b => Q b M2) X) X
  | .bi b es => fun δ M Q X => wpEs es δ M (fun ds M1 => biD Γ.rp b ds M1 fun d => asTru M1 d fun b => Q b M1) X
  | .isi a t => fun δ M Q X => wpE a δ M (fun x M1 => isiD Γ.cls.length t x M1 Γ.sub fun b => Q b M1) X
  | .idx a i => fun δ M Q X => wpE a δ M (fun x M1 => wpE i δ M1 (fun y M2 => idxD M2 x y fun d => asTru M2 d fun b => Q b M2) X) X
  | .attr a x => fun δ M Q X => wpE a δ M (fun d M1 => attrD Γ.ats M1 d x fun v => asTru M1 v fun b => Q b M1) X
  | .isin a c => fun δ M Q X => wpE a δ M (fun x M1 => isinD M1 x c fun b => Q b M1) X
  | .mcall k a es => fun δ M Q X => wpE a δ M (fun x M1 => insD M1 x fun _ c fs => ownD Γ.fn k .meth c (lookA fs (nameD Γ.fn k) = none ∧ wpEs es δ M1 (fun ds M2 => callD Γ.fn k (x :: ds) M2 (fun d M3 => asTru M3 d fun b => Q b M3) X) X)) X
  | .ife c a b => fun δ M Q X => wpT c δ M (fun t M1 => if t = true then wpT a δ M1 Q X else wpT b δ M1 Q X) X
  | _ => fun _ _ _ _ => False
/-- a comprehension's condition; none: nop -/
def wpC : Op → TTD
  | .no => fun _ M Q _ => Q true M
  | .so e => wpT e
def wpO : Op → Dst → Mem → (Option Int → Mem → Prop) → XD → Prop
  | .no => fun _ M Q _ => Q none M
  | .so e => fun δ M Q X => wpE e δ M (fun x M1 => asInt x fun i => Q (some i) M1) X
def wpEs : Es → TAD
  | .nil => fun _ M Q _ => Q [] M
  | .cons e es => fun δ M Q X => wpE e δ M (fun x M1 => wpEs es δ M1 (fun xs M2 => Q (x :: xs) M2) X) X
  | .star e es => fun δ M Q X => wpE e δ M (fun x M1 => asSeq M1 x fun ys => wpEs es δ M1 (fun xs M2 => Q (ys ++ xs) M2) X) X
def wpI : I → Dst → Mem → IK → XD → Prop
  | .seq e => fun δ M Q X => wpE e δ M (fun x M1 => asSeq M1 x fun xs => Q xs (stayD x xs) M1) X
  | .rng1 a => fun δ M Q X => wpE a δ M (fun x M1 => asInt x fun j => RgB j ∧ Q (rngL 0 j.toNat) (fun _ => True) M1) X
  | .rng2 a b => fun δ M Q X => wpE a δ M (fun x M1 => wpE b δ M1 (fun y M2 => asInt x fun i => asInt y fun j => RgB i ∧ RgB j ∧ Q (rngL i (j - i).toNat) (fun _ => True) M2) X) X
  | .rng3 a b c => fun δ M Q X => wpE a δ M (fun x M1 => wpE b δ M1 (fun y M2 => wpE c δ M2 (fun z M3 => asInt x fun i => asInt y fun j => asInt z fun l => ∃ n, RgC i j l n ∧ Q (rngC i l n) (fun _ => True) M3) X) X) X
  | .chr e => fun δ M Q X => wpE e δ M (fun x M1 => asStr x fun z => Q (chrsD z) (fun _ => True) M1) X
  | .enum a => fun δ M Q X => wpE a δ M (fun x M1 => asSeq M1 x fun xs => Q (enumL xs) (stayD x xs) M1) X
  | .zip a b => fun δ M Q X => wpE a δ M (fun x M1 => wpE b δ M1 (fun y M2 => asSeq M2 x fun xs => asSeq M2 y fun ys => (isTupD x = true → isTupD y = true) ∧ Q (zipL xs ys) (fun M => stayD x xs M ∧ stayD y ys M) M2) X) X
end
mutual
def wpS : S → TSD
  | .ex e => fun E δ M => wpE Γ e δ M (fun _ M1 => E.nx δ M1) (fun c d M1 => E.xc c d δ M1)
  | .asg t e => fun E δ M => wpE Γ e δ M (fun x M1 => bndD (bindT t x δ) fun δ' => E.nx δ' M1) (fun c d M1 => E.xc c d δ M1)
  | .asgl ts e => fun E δ M => wpE Γ e δ M (fun x M1 => numL M1 x fun _ xs => bndD (bindT.bindTs ts xs δ) fun δ' => E.nx δ' M1) (fun c d M1 => E.xc c d δ M1)
  | .asgc i e => fun E δ M => wpE Γ e δ M (fun x M1 => E.nx (δ.set i (some x)) M1) (fun c d M1 => E.xc c d δ M1)
  | .par i j a b => fun E δ M => wpEs Γ (.cons a (.cons b .nil)) δ M (fun ds M1 => twoD ds fun x y => E.nx ((δ.set i (some x)).set j (some y)) M1) (fun c d M1 => E.xc c d δ M1)
  | .par3 i j l a b c => fun E δ M => wpEs Γ (.cons a (.cons b (.cons c .nil))) δ M (fun ds M1 => threeD ds fun x y z => E.nx (((δ.set i (some x)).set j (some y)).set l (some z)) M1) (fun c d M1 => E.xc c d δ M1)
  | .seti o i e => fun E δ M => wpE Γ e δ M (fun v M1 => wpE Γ o δ M1 (fun x M2 => wpE Γ i δ M2 (fun y M3 => putiD M3 x y v fun M4 => E.nx δ M4) (fun c d M1 => E.xc c d δ M1)) (fun c d M1 => E.xc c d δ M1)) (fun c d M1 => E.xc c d δ M1)
  | .sattr o x e => fun E δ M => wpE Γ e δ M (fun v M1 => wpE Γ o δ M1 (fun y M2 => insD M2 y fun n c fs => (c, x) ∈ Γ.ats ∧ fs.length < 1000 ∧ E.nx δ (M2.set n (.ins c (putA x v fs)))) (fun c d M1 => E.xc c d δ M1)) (fun c d M1 => E.xc c d δ M1)
  | .sattrs i xs e => fun E δ M => wpE Γ e δ M (fun v M1 => tupD v fun ds => slotD δ i fun y => insD M1 y fun n c fs => (∀ x ∈ xs, (c, x) ∈ Γ.ats) ∧ fs.length + xs.length < 1000 ∧ (match putsA xs ds fs with | some gs => E.nx δ (M1.set n (.ins c gs)) | none => False)) (fun c d M1 => E.xc c d δ M1)
  | .ret e => fun E δ M => wpE Γ e δ M E.rt (fun c d M1 => E.xc c d δ M1)
  | .retn => fun E _ M => E.rt .non M
  | .if_ c a b => fun E δ M => wpT Γ c δ M (fun t M1 => if t = true then wpSs a E δ M1 else wpSs b E δ M1) (fun c d M1 => E.xc c d δ M1)
  | .for_ t it b => fun E δ M => wpI Γ it δ M (fun xs stay M1 => forD (bindT t) (wpSs b) stay E xs δ M1) (fun c d M1 => E.xc c d δ M1)
  | .while_ c b => fun E δ M => ∃ n, whileN (wpT Γ c) (wpSs b) E n δ M
  | .rs c e => fun E δ M => wpE Γ e δ M (fun x M1 => E.xc c x δ M1) (fun c d M1 => E.xc c d δ M1)
  | .try_ c i b j => fun E δ M => wpSs b { E with xc := fun c' d δ' M' => c' < Γ.cls.length ∧ if Γ.sub c' c = true then E.nx ((δ'.set j (some (.exc c' d))).set i none) M' else E.xc c' d δ' M' } δ M
  | .pass => fun E δ M => E.nx δ M
  | .brk => fun E δ M => E.bk δ M
  | .cont => fun E δ M => E.ct δ M
def wpSs : Ss → TSD
  | .nil => fun E δ M => E.nx δ M
  | .cons s ss => fun E δ M => wpS s { E with nx := wpSs ss E } δ M
end
end

theorem asInt.inv {x : D} {k : Int → Prop} (h : asInt x k) : ∃ i, x = .int i ∧ k i := by
  cases x <;> first | exact ⟨_, rfl, h⟩ | exact h.elim
theorem asBl.inv {x : D} {k : Bool → Prop} (h : asBl x k) : ∃ i, x = .bl i ∧ k i := by
  cases x <;> first | exact ⟨_, rfl, h⟩ | exact h.elim
theorem asTru.inv {M : Mem} {x : D} {k : Bool → Prop} (h : asTru M x k) : ∃ b, truD M x = some b ∧ k b := by
  unfold asTru at h
  split at h
  · exact ⟨_, by assumption, h⟩
  · exact h.elim
theorem asSeq.inv {M : Mem} {x : D} {k : List D → Prop} (h : asSeq M x k) : ∃ b, seqD M x = some b ∧ k b := by
  unfold asSeq at h
  split at h
  · exact ⟨_, by assumption, h⟩
  · exact h.elim
theorem asLst.inv {M : Mem} {x : D} {k : List D → Prop} (h : asLst M x k) : ∃ b, lstD M x = some b ∧ k b := by
  unfold asLst at h
  split at h
  · exact ⟨_, by assumption, h⟩
  · exact h.elim
theorem asInts.inv {xs : List D} {k : List Int → Prop} (h : asInts xs k) : ∃ b, intsD xs = some b ∧ k b := by
  unfold asInts at h
  split at h
  · exact ⟨_, by assumption, h⟩
  · exact h.elim
theorem popD.inv {xs : List D} {k : D → List D → Prop} (h : popD xs k) : ∃ y, xs.getLast? = some y ∧ k y xs.dropLast := by
  unfold popD at h
  split at h
  · exact ⟨_, by assumption, h⟩
  · exact h.elim
theorem twoD.inv {ds : List D} {k : D → D → Prop} (h : twoD ds k) : ∃ x y, ds = [x, y] ∧ k x y := by
  unfold twoD at h
  split at h
  · exact ⟨_, _, rfl, h⟩
  · exact h.elim
theorem threeD.inv {ds : List D} {k : D → D → D → Prop} (h : threeD ds k) : ∃ x y z, ds = [x, y, z] ∧ k x y z := by
  unfold threeD at h
  split at h
  · exact ⟨_, _, _, rfl, h⟩
  · exact h.elim
theorem slotD.inv {δ : List (Option D)} {i : Nat} {k : D → Prop} (h : slotD δ i k) : ∃ d, δ[i]? = some (some d) ∧ k d := by
  unfold slotD at h
  split at h
  · exact ⟨_, by assumption, h⟩
  · exact h.elim
theorem cstD.inv {l : List (Str × D)} {i : Nat} {k : D → Prop} (h : cstD l i k) : ∃ d, l[i]? = some d ∧ k d.2 := by
  unfold cstD at h
  split at h
  · exact ⟨_, by assumption, h⟩
  · exact h.elim
theorem numL.inv {M : Mem} {x : D} {k : Nat → List D → Prop} (h : numL M x k) : ∃ n xs, x = .ref n ∧ M[n]? = some (.lst xs) ∧ k n xs := by
  unfold numL at h
  split at h
  · split at h
    · exact ⟨_, _, rfl, by assumption, h⟩
    · exact h.elim
  · exact h.elim
theorem idxD.inv {M : Mem} {x y : D} {k : D → Prop} (h : idxD M x y k) : (∃ xs j d, y = .int j ∧ seqD M x = some xs ∧ atI xs j = some d ∧ k d) ∨ (∃ z j c, y = .int j ∧ x = .str z ∧ z.length ≤ 16777216 ∧ atI z.cps.toList j = some c ∧ k (.str ⟨#[c]⟩)) ∨ ∃ key n kvs d, keyD y = some key ∧ x = .ref n ∧ M[n]? = some (.dct kvs) ∧ valD kvs key = some d ∧ k d := by
  unfold idxD at h
  split at h
  · split at h
    · obtain ⟨h1, h2⟩ := h
      split at h2
      · exact .inr (.inl ⟨_, _, _, rfl, rfl, h1, by assumption, h2⟩)
      · exact h2.elim
    · split at h
      · split at h
        · exact .inl ⟨_, _, _, rfl, by assumption, by assumption, h⟩
        · exact h.elim
      · split at h
        · split at h
          · split at h
            · exact .inr (.inr ⟨_, _, _, _, rfl, rfl, by assumption, by assumption, h⟩)
            · exact h.elim
          · exact h.elim
        · exact h.elim
  · split at h
    · split at h
      · split at h
        · exact .inr (.inr ⟨_, _, _, _, rfl, rfl, by assumption, by assumption, h⟩)
        · exact h.elim
      · exact h.elim
    · exact h.elim
  · exact h.elim
theorem dctD.inv {M : Mem} {x : D} {k : Nat → List (Key × D) → Prop} (h : dctD M x k) : ∃ n kvs, x = .ref n ∧ M[n]? = some (.dct kvs) ∧ k n kvs := by
  unfold dctD at h
  split at h
  · split at h
    · exact ⟨_, _, rfl, by assumption, h⟩
    · exact h.elim
  · exact h.elim
theorem dgetD.inv {M : Mem} {x y z : D} {k : D → Prop} (h : dgetD M x y z k) : ∃ n kvs key, x = .ref n ∧ M[n]? = some (.dct kvs) ∧ keyD y = some key ∧ k ((valD kvs key).getD z) := by
  obtain ⟨n, kvs, e, hm, h⟩ := dctD.inv h
  split at h
  · exact ⟨n, kvs, _, e, hm, by assumption, h⟩
  · exact h.elim
theorem asStr.inv {x : D} {k : Str → Prop} (h : asStr x k) : ∃ i, x = .str i ∧ k i := by
  cases x <;> first | exact ⟨_, rfl, h⟩ | exact h.elim
theorem joinD.inv {M : Mem} {x y : D} {k : Str → Prop} (h : joinD M x y k) : ∃ a ys ss, x = .str a ∧ seqD M y = some ys ∧ strsD ys = some ss ∧ (ss.map (·.length)).sum + ss.length * a.length ≤ 16777216 ∧ k (Txt.join a ss) := by
  unfold joinD at h
  split at h
  · split at h
    · exact ⟨_, _, _, rfl, by assumption, by assumption, h.1, h.2⟩
    · exact h.elim
  · exact h.elim
theorem inL.inv {M : Mem} {x y : D} {k : Bool → Prop} (h : inL M x y k) : ∃ ys, seqD M y = some ys ∧ ((∃ a ss, x = .str a ∧ strsD ys = some ss ∧ k (decide (a ∈ ss))) ∨ (∃ i is, x = .int i ∧ intsD ys = some is ∧ k (decide (i ∈ is))) ∨ ∃ ds, x = .non ∧ pdM M y = some (.list ds) ∧ SeqAt.shaped (.list ds) = true ∧ k (ds.any fun z => PyData.eqv z .none)) := by
  unfold inL at h
  split at h
  · refine ⟨_, by assumption, ?_⟩
    split at h
    · split at h
      · exact .inl ⟨_, _, rfl, by assumption, h⟩
      · exact h.elim
    · split at h
      · exact .inr (.inl ⟨_, _, rfl, by assumption, h⟩)
      · exact h.elim
    · split at h
      · exact .inr (.inr ⟨_, rfl, by assumption, h.1, h.2⟩)
      · exact h.elim
    · exact h.elim
  · exact h.elim
theorem inD.inv {M : Mem} {x y : D} {k : Bool → Prop} (h : inD M x y k) : (∃ a b, x = .str a ∧ y = .str b ∧ k (!(Builtin.Str.occurrences b a 0 b.length 1).isEmpty)) ∨ (∃ n kvs key, y = .ref n ∧ M[n]? = some (.dct kvs) ∧ keyD x = some key ∧ k (valD kvs key).isSome) ∨ inL M x y k := by
  unfold inD at h
  split at h
  · split at h
    · exact .inl ⟨_, _, rfl, rfl, h⟩
    · exact h.elim
  · split at h
    · split at h
      · exact .inr (.inl ⟨_, _, _, rfl, by assumption, by assumption, h⟩)
      · exact h.elim
    · exact .inr (.inr h)
  · exact .inr (.inr h)
theorem insD.inv {M : Mem} {x : D} {k : Nat → Nat → List (Str × D) → Prop} (h : insD M x k) : ∃ n c fs, x = .ref n ∧ M[n]? = some (.ins c fs) ∧ k n c fs := by
  unfold insD at h
  split at h
  · split at h
    · exact ⟨_, _, _, rfl, by assumption, h⟩
    · exact h.elim
  · exact h.elim
theorem attrD.inv {ats : List (Nat × Str)} {M : Mem} {x : D} {f : Str} {k : D → Prop} (h : attrD ats M x f k) : ∃ n c fs d, x = .ref n ∧ M[n]? = some (.ins c fs) ∧ (c, f) ∈ ats ∧ fs.lookup f = some d ∧ k d := by
  obtain ⟨n, c, fs, e, hm, ha, h⟩ := insD.inv h
  split at h
  · exact ⟨n, c, fs, _, e, hm, ha, by assumption, h⟩
  · exact h.elim
theorem ownD.inv {l : List Fn} {k : Nat} {kd : MK} {c : Nat} {p : Prop} (h : ownD l k kd c p) : ∃ f m, l[k]? = some f ∧ f.own = some (c, kd, m) ∧ p := by
  unfold ownD at h
  split at h
  · rename_i f hf
    split at h
    · rename_i c' kd' m e
      obtain ⟨rfl, rfl, h⟩ := h
      exact ⟨_, _, hf, e, h⟩
    · exact h.elim
  · exact h.elim
theorem clsD.inv {l : List Fn} {k : Nat} {p : Nat → Prop} (h : clsD l k p) : ∃ f c m, l[k]? = some f ∧ f.own = some (c, .init, m) ∧ p c := by
  unfold clsD at h
  split at h
  · rename_i f hf
    split at h
    · rename_i c m e
      exact ⟨_, _, _, hf, e, h⟩
    · exact h.elim
  · exact h.elim
theorem nameD_of {l : List Fn} {k : Nat} {f : Fn} {c : Nat} {kd : MK} {m : Str} (h : l[k]? = some f) (e : f.own = some (c, kd, m)) : nameD l k = m := by
  unfold nameD
  rw [h]
  simp only [e]
theorem splitD.inv {x y : D} {k : List D → Prop} (h : splitD x y k) : ∃ a b, x = .str a ∧ y = .str b ∧ (b.length == 0) = false ∧ a.length + 2 ≤ 16777216 ∧ k ((Txt.split a b).map D.str) := by
  unfold splitD at h
  split at h
  · exact ⟨_, _, rfl, rfl, h⟩
  · exact h.elim
theorem tupD.inv {x : D} {k : List D → Prop} (h : tupD x k) : ∃ xs, x = .tup xs ∧ k xs := by
  unfold tupD at h
  split at h
  · exact ⟨_, rfl, h⟩
  · exact h.elim
theorem putiD.inv {M : Mem} {x y v : D} {k : Mem → Prop} (h : putiD M x y v k) : (∃ n xs i j, x = .ref n ∧ M[n]? = some (.lst xs) ∧ y = .int i ∧ ixN xs.length i = some j ∧ k (M.set n (.lst (xs.set j v)))) ∨
    ∃ n kvs key, x = .ref n ∧ M[n]? = some (.dct kvs) ∧ keyD y = some key ∧ kvs.length < 16777216 ∧ k (M.set n (.dct (putD kvs key v))) := by
  unfold putiD at h
  split at h
  · split at h
    · split at h
      · unfold setiD at h
        split at h
        · exact .inl ⟨_, _, _, _, rfl, by assumption, rfl, by assumption, h⟩
        · exact h.elim
      · exact h.elim
    · split at h
      · exact .inr ⟨_, _, _, rfl, by assumption, by assumption, h⟩
      · exact h.elim
    · exact h.elim
  · exact h.elim
theorem cntD.inv {x y : D} {k : Int → Prop} (h : cntD x y k) : ∃ a b, x = .str a ∧ y = .str b ∧ k (Txt.count a b) := by
  unfold cntD at h
  split at h
  · exact ⟨_, _, rfl, rfl, h⟩
  · exact h.elim
theorem callD.inv {l : List Fn} {k : Nat} {ds : List D} {M : Mem} {Q : DK} {X : XD} (h : callD l k ds M Q X) : ∃ f, l[k]? = some f ∧ ds.length = f.par.length ∧ f.sp ds M Q X := by
  unfold callD at h
  split at h
  · exact ⟨_, by assumption, h⟩
  · exact h.elim
theorem bndD.inv {o : Option (List (Option D))} {k : List (Option D) → Prop} (h : bndD o k) : ∃ δ, o = some δ ∧ k δ := by
  unfold bndD at h
  split at h
  · exact ⟨_, rfl, h⟩
  · exact h.elim
theorem setiD.inv {xs : List D} {i : Int} {k : Nat → Prop} (h : setiD xs i k) : ∃ j, ixN xs.length i = some j ∧ k j := by
  unfold setiD at h
  split at h
  · exact ⟨_, by assumption, h⟩
  · exact h.elim
end AA
/-! AA2d: tables of data and of values; operators on dicts. -/
namespace AA
open PySem PySem.Spec L2
open PyProof.Rows hiding St
section
variable {G : Gm} {ρ : List Addr} {H : Hp} {α : List Addr}
theorem val_rel (key : Key) : ∀ {kvs : List (Key × D)} {ws : List (Key × V)}, kvs.map (·.1) = ws.map (·.1) → RDs G ρ H α (kvs.map (·.2)) (ws.map (·.2)) →
    (valD kvs key = none ∧ valV ws key = none) ∨ ∃ d v, valD kvs key = some d ∧ valV ws key = some v ∧ RD G ρ H α d v
  | [], [], _, _ => .inl ⟨rfl, rfl⟩
  | [], _ :: _, h, _ => by simp at h
  | _ :: _, [], h, _ => by simp at h
  | (k, d) :: kvs, (k', v) :: ws, h, r => by
    simp only [List.map_cons, List.cons.injEq] at h
    obtain ⟨h1, h2⟩ := h
    obtain ⟨v', vs', e, r1, rs⟩ := r
    simp only [List.map_cons, List.cons.injEq] at e
    obtain ⟨e1, e2⟩ := e
    subst e1 e2
    subst h1
    by_cases z : k = key
    · exact .inr ⟨d, v, by simp [valD, z], by rw [valV_pos (p := (k, v)) z], r1⟩
    · have i := val_rel key h2 rs
      have a1 : valD ((k, d) :: kvs) key = valD kvs key := by simp [valD, z]
      have a2 : valV ((k, v) :: ws) key = valV ws key := valV_neg (p := (k, v)) z
      rw [a1, a2]
      exact i
theorem val_some {key : Key} {kvs : List (Key × D)} {ws : List (Key × V)} (h : kvs.map (·.1) = ws.map (·.1)) (r : RDs G ρ H α (kvs.map (·.2)) (ws.map (·.2))) : (valD kvs key).isSome = (valV ws key).isSome := by
  rcases val_rel key h r with ⟨a, b⟩ | ⟨d, v, a, b, _⟩
  · rw [a, b]; rfl
  · rw [a, b]; rfl
theorem put_any (key : Key) {kvs : List (Key × D)} {ws : List (Key × V)} (h : kvs.map (·.1) = ws.map (·.1)) : (kvs.any fun kv => decide (kv.1 = key)) = (ws.any fun kv => decide (kv.1 = key)) := by
  have e1 : (kvs.any fun kv => decide (kv.1 = key)) = (kvs.map (·.1)).any fun k => decide (k = key) := by rw [List.any_map]; rfl
  have e2 : (ws.any fun kv => decide (kv.1 = key)) = (ws.map (·.1)).any fun k => decide (k = key) := by rw [List.any_map]; rfl
  rw [e1, e2, h]
theorem put_map {key : Key} {d : D} {v : V} (q : RD G ρ H α d v) : ∀ {kvs : List (Key × D)} {ws : List (Key × V)}, kvs.map (·.1) = ws.map (·.1) → RDs G ρ H α (kvs.map (·.2)) (ws.map (·.2)) →
    (kvs.map fun kv => if kv.1 = key then (kv.1, d) else kv).map (·.1) = (ws.map fun kv => if kv.1 = key then (kv.1, v) else kv).map (·.1) ∧
    RDs G ρ H α ((kvs.map fun kv => if kv.1 = key then (kv.1, d) else kv).map (·.2)) ((ws.map fun kv => if kv.1 = key then (kv.1, v) else kv).map (·.2))
  | [], [], _, _ => ⟨rfl, rfl⟩
  | [], _ :: _, h, _ => by simp at h
  | _ :: _, [], h, _ => by simp at h
  | (k, e) :: kvs, (k', u) :: ws, h, r => by
    simp only [List.map_cons, List.cons.injEq] at h
    obtain ⟨h1, h2⟩ := h
    obtain ⟨v', vs', e0, r1, rs⟩ := r
    simp only [List.map_cons, List.cons.injEq] at e0
    obtain ⟨e1, e2⟩ := e0
    subst e1 e2
    subst h1
    obtain ⟨i1, i2⟩ := put_map q h2 rs
    rw [List.map_cons, List.map_cons, List.map_cons, List.map_cons, List.map_cons, List.map_cons, i1]
    by_cases z : k = key
    · rw [if_pos z, if_pos z]; exact ⟨rfl, RDs.cons q i2⟩
    · rw [if_neg z, if_neg z]; exact ⟨rfl, RDs.cons r1 i2⟩
theorem put_rel {key : Key} {d : D} {v : V} {kvs : List (Key × D)} {ws : List (Key × V)} (h : kvs.map (·.1) = ws.map (·.1)) (r : RDs G ρ H α (kvs.map (·.2)) (ws.map (·.2))) (q : RD G ρ H α d v) :
    (putD kvs key d).map (·.1) = (putK ws key v).map (·.1) ∧ RDs G ρ H α ((putD kvs key d).map (·.2)) ((putK ws key v).map (·.2)) := by
  unfold putD putK
  rw [put_any key h]
  by_cases z : (ws.any fun kv => decide (kv.1 = key)) = true
  · rw [if_pos z, if_pos z]
    exact put_map q h r
  · rw [if_neg z, if_neg z, List.map_append, List.map_append, List.map_append, List.map_append, h]
    exact ⟨rfl, r.append (RDs.cons q RDs.nil)⟩
theorem look_rel (x : Str) : ∀ {fs : List (Str × D)} {ws : List (Str × V)}, fs.map (·.1) = ws.map (·.1) → RDs G ρ H α (fs.map (·.2)) (ws.map (·.2)) →
    (fs.lookup x = none ∧ ws.lookup x = none) ∨ ∃ d v, fs.lookup x = some d ∧ ws.lookup x = some v ∧ RD G ρ H α d v
  | [], [], _, _ => .inl ⟨rfl, rfl⟩
  | [], _ :: _, h, _ => by simp at h
  | _ :: _, [], h, _ => by simp at h
  | (k, d) :: fs, (k', v) :: ws, h, r => by
    simp only [List.map_cons, List.cons.injEq] at h
    obtain ⟨h1, h2⟩ := h
    obtain ⟨v', vs', e, r1, rs⟩ := r
    simp only [List.map_cons, List.cons.injEq] at e
    obtain ⟨e1, e2⟩ := e
    subst e1 e2
    subst h1
    rw [List.lookup_cons, List.lookup_cons]
    cases z : (x == k) with
    | true => exact .inr ⟨d, v, rfl, rfl, r1⟩
    | false => exact look_rel x h2 rs
theorem putA_rel {x : Str} {d : D} {v : V} (q : RD G ρ H α d v) : ∀ {fs : List (Str × D)} {ws : List (Str × V)}, fs.map (·.1) = ws.map (·.1) → RDs G ρ H α (fs.map (·.2)) (ws.map (·.2)) →
    (putA x d fs).map (·.1) = (putF x v ws).map (·.1) ∧ RDs G ρ H α ((putA x d fs).map (·.2)) ((putF x v ws).map (·.2))
  | [], [], _, _ => ⟨rfl, RDs.cons q RDs.nil⟩
  | [], _ :: _, h, _ => by simp at h
  | _ :: _, [], h, _ => by simp at h
  | (k, e) :: fs, (k', u) :: ws, h, r => by
    simp only [List.map_cons, List.cons.injEq] at h
    obtain ⟨h1, h2⟩ := h
    obtain ⟨v', vs', e0, r1, rs⟩ := r
    simp only [List.map_cons, List.cons.injEq] at e0
    obtain ⟨e1, e2⟩ := e0
    subst e1 e2
    subst h1
    obtain ⟨i1, i2⟩ := putA_rel (x := x) q h2 rs
    rw [show putA x d ((k, e) :: fs) = (if k = x then (k, d) :: fs else (k, e) :: putA x d fs) from rfl, show putF x v ((k, u) :: ws) = (if k = x then (k, v) :: ws else (k, u) :: putF x v ws) from rfl]
    by_cases z : k = x
    · rw [if_pos z, if_pos z, List.map_cons, List.map_cons, List.map_cons, List.map_cons, h2]
      exact ⟨rfl, RDs.cons q rs⟩
    · rw [if_neg z, if_neg z, List.map_cons, List.map_cons, List.map_cons, List.map_cons, i1]
      exact ⟨rfl, RDs.cons r1 i2⟩
theorem len_rel {κ β γ : Type} {fs : List (κ × β)} {ws : List (κ × γ)} (h : fs.map (·.1) = ws.map (·.1)) : fs.length = ws.length := by
  have := congrArg List.length h
  simpa using this
theorem keyD_rel {x : D} {key : Key} {v : V} (h : keyD x = some key) (r : RD G ρ H α x v) : v = kV key := by
  cases x <;> simp [keyD] at h
  · subst h; exact r
  · subst h; exact r
theorem keys_rds : ∀ (ks : List Key), RDs G ρ H α (ks.map keyV) (ks.map kV)
  | [] => rfl
  | .inl i :: ks => RDs.cons rfl (keys_rds ks)
  | .inr i :: ks => RDs.cons rfl (keys_rds ks)
end
section
variable {X : Cx}
theorem op_inDic (hu : X.A.units + 64 < cLine) : OpR X (compareOp .In) (fun x y H Q => ∃ a kvs key, y = .ref a ∧ H a = some (.dK kvs) ∧ x = kV key ∧ Q (.bl (valV kvs key).isSome) H) := by
  intro pins s σ H x y v u Q I rx ry h
  obtain ⟨a, kvs, key, e1, e2, e3, q⟩ := h
  subst e1 e3
  cases ry
  exact d_in (Nat.lt_of_le_of_lt (Nat.add_le_add_left (by decide) _) hu) I (DGet.k e2) rx fun s' I' => ⟨.bl _, H, I', rfl, q⟩
theorem op_notInDic (hu : X.A.units + 64 < cLine) : OpR X (compareOp .NotIn) (fun x y H Q => ∃ a kvs key, y = .ref a ∧ H a = some (.dK kvs) ∧ x = kV key ∧ Q (.bl (!(valV kvs key).isSome)) H) := by
  intro pins s σ H x y v u Q I rx ry h
  obtain ⟨a, kvs, key, e1, e2, e3, q⟩ := h
  subst e1 e3
  cases ry
  exact d_notIn (Nat.lt_of_le_of_lt (Nat.add_le_add_left (by decide) _) hu) I (DGet.k e2) rx fun s' I' => ⟨.bl _, H, I', rfl, q⟩
def rInN (K : PySem.W.Frag) (neg : Bool) : R2 := fun x y H Q => ∃ ds, x = .non ∧ Dp K H y (.list ds) ∧ SeqAt.shaped (.list ds) = true ∧ Q (.bl (if neg then !(ds.any fun z => PyData.eqv z .none) else ds.any fun z => PyData.eqv z .none)) H
theorem room_non {ds : List PyData} {n : Nat} (hu : n + 64 < cLine) : n + 1 + min (PyData.depthAll ds) (PyData.depth .none) < cLine := by
  have : PyData.depth .none ≤ 1 := by simp [PyData.depth]
  have := Nat.min_le_right (PyData.depthAll ds) (PyData.depth .none)
  omega
theorem op_inNon (hu : X.A.units + 64 < cLine) : OpR X (compareOp .In) (rInN X.K false) := by
  intro pins s σ H x y v u Q I rx ry h
  obtain ⟨ds, rfl, he, se, q⟩ := h
  obtain ⟨as, r1⟩ := Dp.reads I .none .non v .non rx
  obtain ⟨bs, r2⟩ := Dp.reads I (.list ds) y u he ry
  exact SeqAt.in_list_reads r2 r1 (SeqAt.canLay_of_shaped se) (by decide) (room_non hu) ⟨.bl _, H, I, rfl, q⟩
theorem op_notInNon (hu : X.A.units + 64 < cLine) : OpR X (compareOp .NotIn) (rInN X.K true) := by
  intro pins s σ H x y v u Q I rx ry h
  obtain ⟨ds, rfl, he, se, q⟩ := h
  obtain ⟨as, r1⟩ := Dp.reads I .none .non v .non rx
  obtain ⟨bs, r2⟩ := Dp.reads I (.list ds) y u he ry
  exact SeqAt.notIn_list_reads r2 r1 (SeqAt.canLay_of_shaped se) (by decide) (room_non hu) ⟨.bl _, H, I, rfl, q⟩
def rDic0 (neg : Bool) : R2 := fun x y H Q => ∃ a b kvs, x = .ref a ∧ y = .ref b ∧ H a = some (.dK kvs) ∧ Rd H b (.dK []) ∧ Q (.bl (if neg then !kvs.isEmpty else kvs.isEmpty)) H
theorem empty_len {κ β : Type} : ∀ l : List (κ × β), (l.length == 0) = l.isEmpty
  | [] => rfl
  | _ :: _ => rfl
theorem op_eqDic (hu : X.A.units + 64 < cLine) : OpR X (compareOp .Eq) (rDic0 false) := by
  intro pins s σ H x y v u Q I rx ry h
  obtain ⟨a, b, kvs, rfl, rfl, e1, e2, q⟩ := h
  cases rx; cases ry
  obtain ⟨z, hd, vs, rel, dd⟩ := dk_rd I.hok (.inl e1)
  obtain ⟨z2, hd2, vs2, rel2, dd2⟩ := dk_rd I.hok e2
  have l2 : vs2 = [] := List.eq_nil_of_length_eq_zero (by rw [← rel2.length]; rfl)
  subst l2
  have l1 : vs.length = kvs.length := rel.length.symm
  refine PySem.W.keq_eq (r := true) hd hd2 dd dd2 (by omega) (fun e => ?_) ⟨.bl _, H, I, rfl, ?_⟩
  · have : vs = [] := List.eq_nil_of_length_eq_zero e
    subst this
    exact .nil
  · rw [l1, Bool.and_true, show ((kvs.length == ([] : List (Key × Value)).length)) = kvs.isEmpty from empty_len kvs]
    exact q
theorem op_neDic (hu : X.A.units + 64 < cLine) : OpR X (compareOp .NotEq) (rDic0 true) := by
  intro pins s σ H x y v u Q I rx ry h
  obtain ⟨a, b, kvs, rfl, rfl, e1, e2, q⟩ := h
  cases rx; cases ry
  obtain ⟨z, hd, vs, rel, dd⟩ := dk_rd I.hok (.inl e1)
  obtain ⟨z2, hd2, vs2, rel2, dd2⟩ := dk_rd I.hok e2
  have l2 : vs2 = [] := List.eq_nil_of_length_eq_zero (by rw [← rel2.length]; rfl)
  subst l2
  have l1 : vs.length = kvs.length := rel.length.symm
  refine PySem.W.keq_ne (r := true) hd hd2 dd dd2 (by omega) (fun e => ?_) ⟨.bl _, H, I, rfl, ?_⟩
  · have : vs = [] := List.eq_nil_of_length_eq_zero e
    subst this
    exact .nil
  · rw [l1, Bool.and_true, show ((kvs.length == ([] : List (Key × Value)).length)) = kvs.isEmpty from empty_len kvs]
    exact q
end
end AA
/-! AA2t: tuple(d), d[k], int(text). -/
namespace AA
open PySem PySem.Spec L2 PySem.W
open PyProof.Rows hiding St
section
variable {prog : Program} {w : World} {A : Around} {E : Value → Shared → Prop} {s : Shared} {T : String} {r d : Addr} {n : Nat} {P : Nat → Value → Prop} {OK : Heap → Prop}
theorem collect_kdl {Q : List Value → Shared → Prop} (K : KdlSrc prog w T r d n P OK) (hh : A.handled = none) (hok : OK s.heap) (hn : n ≤ sizeLine)
    (hQ : ∀ (h' : Heap) (tk : Nat) (acc : Array Value), (∀ b o, s.heap.get? b = some o → h'.get? b = some o) → ItemsOf P acc n → Q acc.toList { s with heap := h', toks := tk }) :
    wpAny (model prog w) A (collect (.ref r)) Q E s := by
  unfold collect
  refine wpAny_bind (wpAny_runValue (codeAny_builtin F.entry_proto_collect ?_))
  rw [Around.under_plainId F.plain_proto_collect _]
  show wpAny _ A.in1 (newList [] >>= fun l => again (.builtin "list.__iadd__" ⟨[l, .ref r], []⟩)) _ _ s
  refine wpAny_bind (wpAny_newObj_type ?_)
  refine wpAny_pure ⟨plainId_quiet F.plain_list_iadd _, codeAny_builtin F.entry_list_iadd ?_⟩
  rw [Around.under_plainId F.plain_list_iadd _]
  show wpAny _ A.in1 (Builtin.List.listExtendWith (.ref s.heap.objs.size) (.ref r) (.ref s.heap.objs.size)) _ _ _
  have hS : (s.heap.push { cls := .type "list", data := .seq ([] : List Value).toArray }).get? s.heap.objs.size = some { cls := .type "list", data := .seq #[] 0 } := Heap.get?_push_size _ rfl
  obtain ⟨t1, t2⟩ := K.there s.heap hok
  have ok2 : OK (s.heap.push { cls := .type "list", data := .seq ([] : List Value).toArray }) := K.keep _ _ hok fun b _ o e => Heap.get?_push_of_some _ e
  refine wpAny_mono (kdl_extend (A := A) (R := fun rr s' => rr = .ok (.ret (.ref s.heap.objs.size)) ∧ ∃ (h' : Heap) (tk : Nat) (acc : Array Value) (c' : Nat), s' = { s with heap := h', toks := tk } ∧
      (∀ b o, s.heap.get? b = some o → h'.get? b = some o) ∧ h'.get? s.heap.objs.size = some { cls := .type "list", dict := none, data := .seq acc c', slots := #[] } ∧ ItemsOf P acc n)
    (s := { s with heap := s.heap.push { cls := .type "list", data := .seq ([] : List Value).toArray } }) K hh ok2 _ (Ne.symm (Nat.ne_of_lt t1)) (Ne.symm (Nat.ne_of_lt t2)) _ 0 hS
    (fun h' tk acc c' hk e hi => ⟨rfl, h', tk, acc, c', rfl, fun b o q => hk b o (Nat.ne_of_lt (Heap.lt_size q)) (Heap.get?_push_of_some _ q), e, hi⟩) hn) (fun fin s' h => ?_) (fun e s' h => ?_)
  · cases fin with
    | done f =>
      obtain ⟨e, h', tk, acc, c', rfl, hk, hS', hi⟩ := h
      cases e
      show wpAny _ A (load s.heap.objs.size >>= _) _ _ _
      exact wpAny_bind (wpAny_load hS' (wpAny_pure (hQ h' tk acc hk hi)))
    | again c' =>
      refine ⟨h.1, codeAny_mono h.2 fun rr s'' hr' => ?_⟩
      obtain ⟨rfl, h', tk, acc, c', rfl, hk, hS', hi⟩ := hr'
      show wpAny _ A (load s.heap.objs.size >>= _) _ _ _
      exact wpAny_bind (wpAny_load hS' (wpAny_pure (hQ h' tk acc hk hi)))
  · exact absurd h.1 (by simp)
theorem code_tuple_kdl {Q₁ : Value → Shared → Prop} (K : KdlSrc prog w "dict" r d n P OK) (hh : A.handled = none) (hok : OK s.heap) (hn : n ≤ sizeLine)
    (h : ∀ (h' : Heap) (tk : Nat) (acc : Array Value), (∀ b o, s.heap.get? b = some o → h'.get? b = some o) → ItemsOf P acc n → Q₁ (.ref h'.objs.size) { s with heap := h'.push { cls := .type "tuple", data := .seq acc }, toks := tk }) :
    codeAny (model prog w) A (.call (.builtin "tuple.__new__") ⟨[.type "tuple", .ref r], []⟩) (wants Q₁ E) s := by
  refine codeAny_of_tree ?_
  show wpAny _ A.in1 (do checkBuiltinCall "tuple.__new__" ⟨[.type "tuple", .ref r], []⟩; again (.builtin "tuple.__new__" ⟨[.type "tuple", .ref r], []⟩)) _ _ s
  refine wpAny_bind (wpAny_of_eq (F.newCall_tuple_1 _) (wpAny_pure ⟨plainId_quiet F.plain_tuple_new _, codeAny_builtin F.entry_tuple_new ?_⟩))
  rw [Around.under_plainId F.plain_tuple_new _]
  have hsub := sub_tuple_self
  have hinit := init_tuple_lookup
  have hmh := madeHere_tuple
  have hTI : s.TypeIs (.ref r) "dict" := K.type s hok
  have hh1 : A.in1.handled = none := hh
  wp_walk using wpAny_typeOf hTI, collect_kdl (A := A.in1) K hh1 hok hn
  intro h' tk acc hk hacc
  show wpAny _ _ (Builtin.Tuple.tupleExact acc.toList.toArray >>= fun v => ret v) _ _ _
  unfold Builtin.Tuple.tupleExact
  refine wpAny_bind (wpAny_newObj_type ?_ (by show acc.toList.toArray.size ≤ sizeLine; simp only [Array.toArray_toList]; rw [hacc.1]; exact hn))
  refine wpAny_pure ?_
  have e : acc.toList.toArray = acc := by simp
  rw [e]
  exact h h' tk acc hk hacc
theorem call_tuple_kdl {Q : Value → Shared → Prop} (K : KdlSrc prog w "dict" r d n P OK) (hh : A.handled = none) (hok : OK s.heap) (hn : n ≤ sizeLine)
    (hQ : ∀ (h' : Heap) (tk : Nat) (acc : Array Value), (∀ b o, s.heap.get? b = some o → h'.get? b = some o) → ItemsOf P acc n → Q (.ref h'.objs.size) { s with heap := h'.push { cls := .type "tuple", data := .seq acc }, toks := tk }) :
    wpAny (model prog w) A (call (.type "tuple") [.ref r]) Q E s := by
  refine callType_codes (Q₁ := fun obj s₁ => s₁.TypeIs obj "tuple" ∧ Q obj s₁) F.called_tuple (F.typeCall_tuple_1 _) F.entry_object_init
    (code_tuple_kdl (A := A.in1) K hh hok hn fun h' tk acc hk hacc => ⟨⟨_, Heap.get?_push_size _ rfl, rfl⟩, hQ h' tk acc hk hacc⟩) fun obj s₁ h₁ => ?_
  exact ⟨h₁.1, F.args_object_init_2 obj _, object_init_meets F.called_tuple.init.lookup F.called_tuple.made (by decide) prog w A.in1 _ s₁ ⟨h₁.1, rfl, h₁.2⟩⟩
end
section
variable {X : Cx}
theorem call_tuple_dK (hc : X.calm = true) : CallR X (.type "tuple") (fun xs H Q => ∃ p kvs, xs = [.ref p] ∧ H p = some (.dK kvs) ∧ ∀ q, H q = none → Q (.ref q) (upd H q (.tup (kvs.map fun kv => kV kv.1)))) := by
  intro pins s σ H xs us Q I r h
  obtain ⟨p, kvs, e, hk, q⟩ := h
  subst e
  obtain ⟨u, eu, rx⟩ := vals1 r
  subst eu
  obtain rfl : u = Value.ref p := rx
  obtain ⟨z, lo, vs, rk, hd⟩ := (show ObjOk X.prog X.w H s.heap p (.dK kvs) from I.hok p _ hk)
  obtain ⟨ep, hat⟩ := hd.dictAt
  have hl : kvs.length = vs.length := Paired.length rk
  refine call_tuple_kdl (PySem.W.kdl_dict (knd := mixKind X.prog X.w) (kvs := vs) (ep := ep) lo) (I.ok.hd hc) hat (by rw [← hl]; exact z) fun h' tk acc' hkeep hacc => ?_
  have I2 : Inv X pins σ H { s with heap := h', toks := tk } := I.kept hkeep
  refine ⟨.ref h'.objs.size, upd H h'.objs.size (.tup (kvs.map fun kv => kV kv.1)), I2.laid (t' := tk) (fun c o e => Heap.get?_push_of_some _ e) (Nat.le_refl _) (show ObjOk X.prog X.w _ _ _ (.tup (kvs.map fun kv => kV kv.1)) from ⟨?_, acc'.toList, ?_, ?_⟩), rfl, q _ (I2.hok.fresh (Nat.le_refl _))⟩
  · rw [List.length_map]; exact z
  · have el : acc'.toList.length = acc'.size := by simp
    refine vals_of_at (by rw [List.length_map, el, hacc.1, hl]) fun j x w h1 h2 => ?_
    obtain ⟨k, y, hky, hi⟩ := hacc.2 j w (by rw [← Array.getElem?_toList]; exact h2)
    have e1 : (kvs.map (·.1))[j]? = some k := by
      rw [KV.keys rk, List.getElem?_map, hky] <;> rfl
    have e2 : (kvs.map fun kv => kV kv.1)[j]? = some (kV k) := by
      have e3 : (kvs.map fun kv => kV kv.1) = (kvs.map (·.1)).map kV := by rw [List.map_map] <;> rfl
      rw [e3, List.getElem?_map, e1] <;> rfl
    rw [e2] at h1
    cases h1
    exact keyIs_rel hi
  · rw [Array.toArray_toList]; exact IsTup.new _ _
def rIxD : R2 := fun x y H Q => ∃ a kvs key v, x = .ref a ∧ y = kV key ∧ H a = some (.dK kvs) ∧ valV kvs key = some v ∧ Q v H
theorem ix_dic (hu : X.A.units + 1 < cLine) : IxR X rIxD := by
  intro value slice pins s σ H x y v u Q I rx ry h hs
  obtain ⟨a, kvs, key, w, rfl, rfl, e, l, q⟩ := h
  cases rx
  have g : DGet H a (kV key) (some w) := by rw [← l]; exact DGet.k e
  have hT := dict_typeIs I g
  unfold subscriptTail
  refine wpAny_bind ?_
  rw [getitemInPython_of_ne hT.not_modules]
  refine wpAny_bind (wpAny_specialOf hT PySem.F.slot_dict_getitem.lookup ?_)
  have fin : wpAny (model X.prog X.w) X.A (subscripted slice false (.ref a) u) (fun r s₃ => wpAny (model X.prog X.w) X.A (letTemporaryGo value (.ref a) r >>= fun _ => pure r) (EP X pins σ Q) X.xe s₃) X.xe s := by
    rw [hs]
    exact wpAny_operating (wpAny_mono (d_getItem (Q := EP X pins σ Q) (E := X.xe) hu I g ry fun w' s' I' rw' => ⟨w, H, I', rw', q⟩) (fun r s₃ h₃ => wpAny_bind (wpAny_letTemporaryGo (wpAny_pure h₃))) fun _ _ x => x)
  first
    | exact wpAny_pure (wpAny_bind fin)
    | exact wpAny_bind (wpAny_pure (wpAny_bind fin))
    | exact wpAny_bind fin
def rSetD : TSet := fun o i v H Q => ∃ a kvs key, o = .ref a ∧ i = kV key ∧ H a = some (.dK kvs) ∧ kvs.length < sizeLine ∧ Q (upd H a (.dK (putK kvs key v)))
theorem set_dic (hu : X.A.units + 1 < cLine) : PSet X rSetD := by
  intro pins s σ H o i v ov iv u Q I ro ri rv h
  obtain ⟨a, kvs, key, rfl, rfl, e, hl, q⟩ := h
  cases ro
  exact d_setItem hu I (DPut.k e hl) ri rv fun s' I' => ⟨_, I', q⟩
theorem set_or {t u : TSet} (h : PSet X t) (k : PSet X u) : PSet X (fun o i v H Q => t o i v H Q ∨ u o i v H Q) := by
  intro pins s σ H o i v ov iv w Q I ro ri rv hq
  rcases hq with hq | hq
  · exact h pins s σ H o i v ov iv w Q I ro ri rv hq
  · exact k pins s σ H o i v ov iv w Q I ro ri rv hq
end
end AA
/-! AA3: expressions keep what is asked. -/
namespace AA
open PySem PySem.Spec L2
open PyProof.Rows hiding St

section
variable {X : Cx} {cad : Cad} {W : WX} {pos : Pos}
abbrev gx (X : Cx) (cad : Cad) : Gm := ⟨X.K, cad⟩
abbrev PEU (X : Cx) (cad : Cad) (W : WX) (e : Expr) (t : TD) : Prop := PE X e (up (gx X cad) W t)
abbrev PTU (X : Cx) (cad : Cad) (W : WX) (e : Expr) (t : TTD) : Prop := PT X e (upt (gx X cad) W t)
abbrev PWU (X : Cx) (cad : Cad) (W : WX) (e : Expr) (t : TTD) : Prop := PW X e (upt (gx X cad) W t)
abbrev PAU (X : Cx) (cad : Cad) (W : WX) (e : List Expr) (t : TAD) : Prop := PA X e (upa (gx X cad) W t)
abbrev PSU (X : Cx) (cad : Cad) (W : WX) (e : Stmt) (t : TSD) : Prop := PS X e (ups (gx X cad) W t)
abbrev PSsU (X : Cx) (cad : Cad) (W : WX) (e : List Stmt) (t : TSD) : Prop := PSs X e (ups (gx X cad) W t)

theorem u_var {Γ : Tab} {i : Nat} {x : Str} (hN : X.N[i]? = some x) (hv : Vis X.env.scope x) (hd : (x == ("__debug__" : Str)) = false) (hcd : (x == ("__classdict__" : Str)) = false) : PEU X cad W (.Name x pos) (wpE Γ (.var i)) :=
  (pe_var hN hv hd hcd).mono fun σ H Q ⟨ρ, δ, α, M, Q', X', rs, rm, t, hq, hx⟩ => by
    simp only [wpE] at t
    obtain ⟨d, hd, t⟩ := t.inv
    obtain ⟨v, h1, h2⟩ := rs.2 i d hd
    exact ⟨v, h1, hq _ _ t v H α (Nx.refl ..) h2 rm⟩
theorem u_con {Γ : Tab} {e : Expr} {v : V} {d : D} (h : PE X e (tC v)) (r : ∀ ρ H α, RD (gx X cad) ρ H α d v) : PEU X cad W e (fun _ M Q _ => Q d M) :=
  h.mono fun σ H Q ⟨ρ, δ, α, M, Q', X', rs, rm, t, hq, hx⟩ => hq _ _ t v H α (Nx.refl ..) (r ρ H α) rm

/-- two in a row, then an operation by values -/
theorem tOp_up {r : R2} {R : D → D → Mem → DK → Prop} {ta tb : TD} {G : Gm}
    (h : ∀ ρ H α M (Q : DK) (Qv : VK) x y v u, RM G ρ H α M → RD G ρ H α x v → RD G ρ H α y u → R x y M Q → (∀ d M', Q d M' → wv G ρ α H Qv d M') → r v u H Qv) :
    ∀ σ H Q, up G W (fun δ M Q Xc => ta δ M (fun x M1 => tb δ M1 (fun y M2 => R x y M2 Q) Xc) Xc) σ H Q → tOp r (up G W ta) (up G W tb) σ H Q := by
  rintro σ H Qv ⟨ρ, δ, α, M, Q', X', rs, rm, t, hq, hx⟩
  refine ⟨ρ, δ, α, M, _, _, rs, rm, t, fun x M1 q v H1 α1 n1 r1 m1 => ?_, hx⟩
  refine ⟨ρ, δ, α1, M1, _, _, rs.nx n1, m1, q, fun y M2 q2 u H2 α2 n2 r2 m2 => ?_, fun c d M' x => (hx c d M' x).nx n1⟩
  exact h ρ H2 α2 M2 _ Qv x y v u m2 (r1.nx n2) r2 q2 fun d M' z => (hq d M' z).nx (n1.trans n2)

/-! ### operators -/
theorem new_tup {G : Gm} {ρ α : List Addr} {H : Hp} {M : Mem} {xs : List D} {vs : List V} {Q : DK} {Qv : VK} (rm : RM G ρ H α M) (r : RDs G ρ H α xs vs) (q : Q (.tup xs) M) (hq : ∀ d M', Q d M' → wv G ρ α H Qv d M')
    (p : Addr) (hp : H p = none) : Qv (.ref p) (upd H p (.tup vs)) := by
  refine hq _ _ q _ _ α (Nx.new hp) ⟨p, vs, rfl, .inl ⟨fun z => ?_, fun z => rm.rho p z (.inl hp), .inl upd_same⟩, r.nx (Nx.new (ρ := []) hp)⟩ (rm.new hp)
  obtain ⟨o, e⟩ := rm.mem z
  rw [hp] at e; cases e
theorem num_of {G : Gm} {ρ α : List Addr} {H : Hp} {M : Mem} (rm : RM G ρ H α M) {n : Nat} {mo : MO} (h : M[n]? = some mo) : ∃ a, α[n]? = some a ∧ RO G ρ H α a mo := by
  have hl : n < α.length := by rw [rm.len]; exact (List.getElem?_eq_some_iff.mp h).1
  exact ⟨α[n], List.getElem?_eq_getElem hl, rm.at_ n _ mo (List.getElem?_eq_getElem hl) h⟩
theorem LstAt.sql {K : PySem.W.Frag} {ρ α : List Addr} {H : Hp} {a : Addr} {vs : List V} (h : LstAt K ρ H α a vs) : SqL K H a vs := by
  rcases h with h | h
  · exact .inl h.2.2
  · exact .inr h
theorem TupAt.sqt {K : PySem.W.Frag} {ρ α : List Addr} {H : Hp} {a : Addr} {vs : List V} (h : TupAt K ρ H α a vs) : SqT K H a vs := by
  rcases h with h | h
  · exact .inl h.2.2
  · exact .inr h
/-- what seqD tells -/
theorem seq_of {G : Gm} {ρ α : List Addr} {H : Hp} {M : Mem} (rm : RM G ρ H α M) {d : D} {v : V} {xs : List D} (r : RD G ρ H α d v) (e : seqD M d = some xs) : ∃ a vs, v = .ref a ∧ (SqL G.K H a vs ∨ SqT G.K H a vs) ∧ RDs G ρ H α xs vs := by
  cases d with
  | tup ys => obtain ⟨a, vs, rfl, t, rs⟩ := r; cases e; exact ⟨a, vs, rfl, .inr t.sqt, rs⟩
  | lst ys => obtain ⟨a, vs, rfl, t, rs⟩ := r; cases e; exact ⟨a, vs, rfl, .inl t.sql, rs⟩
  | ref n =>
    obtain ⟨a, rfl, ha⟩ := r
    simp only [seqD] at e
    split at e
    · rename_i ys hm
      cases e
      obtain ⟨vs, h1, h2⟩ := rm.get ha hm
      exact ⟨a, vs, rfl, .inl (SqL.of h1), h2⟩
    · cases e
  | _ => cases e
theorem binD_add {ρ : List Addr} {H : Hp} {α : List Addr} {M : Mem} {Q : DK} {Qv : VK} {x : D} {v : V} {y : D} {u : V} (rm : RM (gx X cad) ρ H α M) (r1 : RD (gx X cad) ρ H α x v) (r2 : RD (gx X cad) ρ H α y u)
    (b : binD .add x y fun z => Q z M) (hq : ∀ d M', Q d M' → wv (gx X cad) ρ α H Qv d M') : (rI0 (fun i j => .int (i + j)) v u H Qv ∨ (∃ i j, v = .str i ∧ u = .str j ∧ i.length + j.length ≤ sizeLine ∧ Qv (.str (i ++ j)) H)) ∨ rCatA X.K v u H Qv := by
  unfold binD at b
  split at b <;> try contradiction
  · cases r1; cases r2
    exact .inl (.inl ⟨_, _, rfl, rfl, hq _ _ b _ _ _ (Nx.refl ..) rfl rm⟩)
  · cases r1; cases r2
    exact .inl (.inr ⟨_, _, rfl, rfl, by rw [sizeLine_eq]; exact b.1, hq _ _ b.2 _ _ _ (Nx.refl ..) rfl rm⟩)
  · rename_i xs ys _
    obtain ⟨a, vs, rfl, t1, rs1⟩ := id r1
    obtain ⟨b', us, rfl, t2, rs2⟩ := id r2
    refine .inr ⟨a, b', vs, us, rfl, rfl, t1.sqt, t2.sqt, by rw [sizeLine_eq, ← rs1.length, ← rs2.length]; exact b.1, fun e => ?_, fun _ e => ?_, fun _ _ p hp => ?_⟩
    · have : xs = [] := by
        have := rs1.length
        rw [e] at this
        exact List.eq_nil_of_length_eq_zero this
      subst this
      exact hq _ _ b.2 _ _ _ (Nx.refl ..) r2 rm
    · have : ys = [] := by
        have := rs2.length
        rw [e] at this
        exact List.eq_nil_of_length_eq_zero this
      subst this
      have b2 := b.2
      rw [List.append_nil] at b2
      exact hq _ _ b2 _ _ _ (Nx.refl ..) r1 rm
    · exact new_tup rm (rs1.append rs2) b.2 hq p hp
theorem rep_rds {G : Gm} {ρ : List Addr} {H : Hp} {α : List Addr} {xs : List D} {vs : List V} (r : RDs G ρ H α xs vs) : ∀ n, RDs G ρ H α (List.replicate n xs).flatten (List.replicate n vs).flatten
  | 0 => by simp; exact RDs.nil
  | n + 1 => by rw [List.replicate_succ, List.replicate_succ, List.flatten_cons, List.flatten_cons]; exact r.append (rep_rds r n)
def bopOf : Bop → Operator
  | .add => .Add | .sub => .Sub | .mul => .Mult | .fdiv => .FloorDiv | .mod => .Mod | .pow => .Pow | .shl => .LShift | .shr => .RShift | .band => .BitAnd
theorem op_powW {X : Cx} : OpR X (binaryOp .Pow) (rI PowOk fun i j => .int (i ^ j.toNat)) := opI fun i j t u s Q E hc q => by
  refine pow_int hc.1 ?_ q
  have b : Builtin.Int.intBits i ≤ i.natAbs.log2 + 1 := by unfold Builtin.Int.intBits; split <;> omega
  have b2 : (Builtin.Int.intBits i : Int) ≤ (i.natAbs.log2 : Int) + 1 := by omega
  exact Int.le_trans (Int.mul_le_mul_of_nonneg_right b2 hc.1) hc.2
theorem repS_one (a : Str) : repS a 1 = a := by
  unfold repS
  cases a
  simp
theorem repS_nil {a : Str} (h : a.length = 0) (n : Nat) : repS a n = a := by
  cases a with
  | mk c =>
    have e : c = #[] := by simpa [Str.length] using h
    subst e
    unfold repS
    congr 1
    show (List.replicate n (#[] : Array Nat)).foldl (· ++ ·) #[] = #[]
    induction n with
    | zero => rfl
    | succ n ih => rw [List.replicate_succ, List.foldl_cons]; simpa using ih
theorem op_repS : OpR X (binaryOp .Mult) (fun x y H Q => ∃ a j, x = .str a ∧ y = .int j ∧ 0 ≤ j ∧ j ≤ 16777216 ∧ a.length * j.toNat ≤ sizeLine ∧ Q (.str (repS a j.toNat)) H) := by
  intro pins s σ H x y v u Q I rx ry h
  obtain ⟨a, j, rfl, rfl, j0, j1, hz, q⟩ := h
  obtain ⟨t, rfl⟩ := rx
  obtain ⟨t', rfl⟩ := ry
  have tl : Builtin.Str.tooLong (a.length * j.toNat) = false := by
    unfold Builtin.Str.tooLong
    exact decide_eq_false (by omega)
  refine PySem.P.mul_str (by rw [decide_eq_false (by omega), decide_eq_false (by omega)]; rfl) (fun h1 h2 => ?_) (fun _ _ => tl) ?_
  · have e1 : a.length * j.toNat ≤ 16777216 := by rw [sizeLine_eq] at hz; exact hz
    have hj : 1 ≤ j := by omega
    have h3 : (a.length : Int) * j ≤ 16777216 := by
      have := Int.ofNat_le.mpr e1
      rw [Int.natCast_mul, Int.toNat_of_nonneg j0] at this
      exact this
    have h4 : (a.length : Int) ≤ 16777216 := by
      have h5 : (a.length : Int) * 1 ≤ (a.length : Int) * j := Int.mul_le_mul_of_nonneg_left hj (by omega)
      omega
    have h6 : (16777216 : Int) ≤ (2 ^ 63 - 1) / j := Int.le_ediv_of_mul_le (by omega) (by omega)
    omega
  · by_cases h1 : j < 1
    · have e : j.toNat = 0 := by omega
      rw [if_pos h1]
      refine ⟨by decide, .str (repS a j.toNat), H, I.tok _, ⟨s.toks, ?_⟩, q⟩
      rw [e]
      rfl
    · rw [if_neg h1]
      by_cases h2 : (j == 1 || a.length == 0) = true
      · rw [if_pos h2]
        have e : repS a j.toNat = a := by
          simp only [Bool.or_eq_true, beq_iff_eq] at h2
          rcases h2 with h2 | h2
          · rw [h2]; exact repS_one a
          · exact repS_nil h2 _
        exact ⟨.str (repS a j.toNat), H, I, ⟨t, by rw [e]⟩, q⟩
      · rw [if_neg h2]
        exact ⟨fits_reps tl, .str (repS a j.toNat), H, I.tok _, ⟨_, rfl⟩, q⟩
theorem u_bin {Γ : Tab} {op : Bop} {a b : Expr} {a' b' : E} (ha : PEU X cad W a (wpE Γ a')) (hb : PEU X cad W b (wpE Γ b')) : PEU X cad W (.BinOp a (bopOf op) b pos) (wpE Γ (.bin op a' b')) := by
  have key : ∀ (r : R2), OpR X (binaryOp (bopOf op)) r → (∀ ρ H α M (Q : DK) (Qv : VK) x y v u, RM (gx X cad) ρ H α M → RD (gx X cad) ρ H α x v → RD (gx X cad) ρ H α y u → binD op x y (fun z => Q z M) → (∀ d M', Q d M' → wv (gx X cad) ρ α H Qv d M') → r v u H Qv) →
      PEU X cad W (.BinOp a (bopOf op) b pos) (wpE Γ (.bin op a' b')) := fun r ho h => by
    have q := (pe_op (pos := pos) ho ha hb).mono (tOp_up (G := gx X cad) (W := W) (R := fun x y M Q => binD op x y fun z => Q z M) h)
    simpa only [wpE] using q
  cases op with
  | add => exact key _ ((op_add.or op_add_str).or op_catA) fun ρ H α M Q Qv x y v u rm r1 r2 b hq => binD_add rm r1 r2 b hq
  | sub =>
      refine key _ op_sub fun ρ H α M Q Qv x y v u rm r1 r2 b hq => ?_
      unfold binD at b
      split at b <;> try contradiction
      cases r1; cases r2
      exact ⟨_, _, rfl, rfl, hq _ _ b _ _ _ (Nx.refl ..) rfl rm⟩
  | mul =>
      refine key _ (((op_mul.or op_mulW).or op_repT).or op_repS) fun ρ H α M Q Qv x y v u rm r1 r2 b hq => ?_
      unfold binD at b
      split at b <;> try contradiction
      · cases r1; cases r2
        rcases b.1 with c | c
        · exact .inl (.inl (.inl ⟨_, _, rfl, rfl, c, hq _ _ b.2 _ _ _ (Nx.refl ..) rfl rm⟩))
        · exact .inl (.inl (.inr ⟨_, _, rfl, rfl, c, hq _ _ b.2 _ _ _ (Nx.refl ..) rfl rm⟩))
      · rename_i xs j _
        obtain ⟨a, vs, rfl, t1, rs1⟩ := id r1
        cases r2
        refine .inl (.inr ⟨a, j, vs, rfl, rfl, t1.sqt, fun e => b.1.1 (List.eq_nil_of_length_eq_zero (by rw [rs1.length, e]; rfl)), b.1.2.1, b.1.2.2.1, by rw [← rs1.length]; exact b.1.2.2.2, fun p hp => new_tup rm (rep_rds rs1 _) b.2 hq p hp⟩)
      · cases r1; cases r2
        exact .inr ⟨_, _, rfl, rfl, b.1.1, b.1.2.1, by rw [sizeLine_eq]; exact b.1.2.2, hq _ _ b.2 _ _ _ (Nx.refl ..) rfl rm⟩
  | fdiv =>
      refine key _ (op_fdiv.or op_fdivW) fun ρ H α M Q Qv x y v u rm r1 r2 b hq => ?_
      unfold binD at b
      split at b <;> try contradiction
      cases r1; cases r2
      rcases b.1.2 with c | c
      · exact .inl ⟨_, _, rfl, rfl, ⟨b.1.1, c⟩, hq _ _ b.2 _ _ _ (Nx.refl ..) rfl rm⟩
      · exact .inr ⟨_, _, rfl, rfl, ⟨b.1.1, c⟩, hq _ _ b.2 _ _ _ (Nx.refl ..) rfl rm⟩
  | mod =>
      refine key _ op_mod fun ρ H α M Q Qv x y v u rm r1 r2 b hq => ?_
      unfold binD at b
      split at b <;> try contradiction
      cases r1; cases r2
      exact ⟨_, _, rfl, rfl, b.1, hq _ _ b.2 _ _ _ (Nx.refl ..) rfl rm⟩
  | pow =>
      refine key _ op_powW fun ρ H α M Q Qv x y v u rm r1 r2 b hq => ?_
      unfold binD at b
      split at b <;> try contradiction
      cases r1; cases r2
      exact ⟨_, _, rfl, rfl, b.1, hq _ _ b.2 _ _ _ (Nx.refl ..) rfl rm⟩
  | shl => exact key _ op_shl fun ρ H α M Q Qv x y v u rm r1 r2 b hq => (by unfold binD at b; split at b <;> contradiction)
  | shr => exact key _ op_shr fun ρ H α M Q Qv x y v u rm r1 r2 b hq => (by unfold binD at b; split at b <;> contradiction)
  | band => exact key _ op_and fun ρ H α M Q Qv x y v u rm r1 r2 b hq => (by unfold binD at b; split at b <;> contradiction)

/-! ### comparisons -/
mutual
theorem dp_of {G : Gm} {ρ : List Addr} {H : Hp} {α : List Addr} : ∀ (d : D) (v : V) (p : PyData), RD G ρ H α d v → pd d = some p → Dp G.K H v p
  | .non, v, p, r, e => by cases r; cases e; exact .non
  | .bl b, v, p, r, e => by cases r; cases e; exact .bl b
  | .int b, v, p, r, e => by cases r; cases e; exact .int b
  | .str b, v, p, r, e => by cases r; cases e; exact .str b
  | .tup xs, v, p, r, e => by
    obtain ⟨a, vs, rfl, t, rs⟩ := r
    simp only [pd] at e
    split at e
    · rename_i ds h; cases e; exact .tup t.sqt (dps_of xs vs ds rs h)
    · cases e
  | .lst xs, v, p, r, e => by
    obtain ⟨a, vs, rfl, t, rs⟩ := r
    simp only [pd] at e
    split at e
    · rename_i ds h; cases e; exact .lst t.sql (dps_of xs vs ds rs h)
    · cases e
  | .ref _, v, p, r, e => by cases e
  | .exc _ _, v, p, r, e => by cases e
  | .dic0, v, p, r, e => by cases e
theorem dps_of {G : Gm} {ρ : List Addr} {H : Hp} {α : List Addr} : ∀ (ds : List D) (vs : List V) (ps : List PyData), RDs G ρ H α ds vs → pds ds = some ps → DpAll G.K H vs ps
  | [], vs, ps, r, e => by cases e; rw [show vs = [] from r]; exact .nil
  | d :: ds, vs, ps, r, e => by
    obtain ⟨v, vs', rfl, r1, rs⟩ := r
    simp only [pds] at e
    split at e
    · rename_i p ps' h1 h2
      cases e
      exact .cons (dp_of d v p r1 h1) (dps_of ds vs' ps' rs h2)
    · cases e
end
theorem dp_ofM {G : Gm} {ρ : List Addr} {H : Hp} {α : List Addr} {M : Mem} (rm : RM G ρ H α M) (d : D) (v : V) (p : PyData) (r : RD G ρ H α d v) (e : pdM M d = some p) : Dp G.K H v p := by
  cases d with
  | ref n =>
    obtain ⟨a, rfl, ha⟩ := r
    simp only [pdM] at e
    split at e <;> try contradiction
    rename_i xs hm
    split at e <;> try contradiction
    rename_i ds hd
    cases e
    obtain ⟨vs, h1, h2⟩ := rm.get ha hm
    exact .lst (SqL.of h1) (dps_of xs vs ds h2 hd)
  | _ => exact dp_of _ v p r e
def copOf : Cop → CmpOp
  | .lt => .Lt | .le => .LtE | .gt => .Gt | .ge => .GtE | .eq => .Eq | .ne => .NotEq | .is => .Is | .isnot => .IsNot | .inn => .In | .notin => .NotIn
/-- x in y, all ways -/
def rInA (K : PySem.W.Frag) (neg : Bool) : R2 := fun x y H Q => (rIn K neg x y H Q ∨ rInN K neg x y H Q) ∨ (∃ i j, x = .str i ∧ y = .str j ∧ Q (.bl (if neg then !(!(Builtin.Str.occurrences j i 0 j.length 1).isEmpty) else !(Builtin.Str.occurrences j i 0 j.length 1).isEmpty)) H) ∨
  ∃ a kvs key, y = .ref a ∧ H a = some (.dK kvs) ∧ x = kV key ∧ Q (.bl (if neg then !(valV kvs key).isSome else (valV kvs key).isSome)) H
/-- a comparison's rule by values -/
def rCop (K : PySem.W.Frag) : Cop → R2
  | .lt => rI0 fun i j => .bl (decide (i < j))
  | .le => fun x y H Q => rI0 (fun i j => .bl (decide (i ≤ j))) x y H Q ∨ rLeT K x y H Q
  | .gt => rI0 fun i j => .bl (decide (j < i))
  | .ge => rI0 fun i j => .bl (decide (j ≤ i))
  | .eq => fun x y H Q => (∃ a b, x = .str a ∧ y = .str b ∧ Q (.bl (decide (a = b))) H) ∨ rEqD K x y H Q ∨ rDic0 false x y H Q
  | .ne => fun x y H Q => (∃ a b, x = .str a ∧ y = .str b ∧ Q (.bl (!decide (a = b))) H) ∨ rNeD K x y H Q ∨ rDic0 true x y H Q
  | .is => fun x y H Q => y = .non ∧ Q (.bl (decide (x = .non))) H
  | .isnot => fun x y H Q => y = .non ∧ Q (.bl (!decide (x = .non))) H
  | .inn => rInA K false
  | .notin => rInA K true
theorem dec_strV {a b : Str} : decide (V.str a = V.str b) = decide (a = b) := by
  by_cases h : a = b
  · subst h; simp
  · simp [h]
theorem cop_ok (hu : X.A.units + 64 < cLine) : ∀ op : Cop, OpR X (compareOp (copOf op)) (rCop X.K op)
  | .lt => op_lt
  | .le => op_le.or (op_leT (Nat.lt_of_le_of_lt (Nat.le_add_right _ _) hu))
  | .gt => op_gt
  | .ge => op_ge
  | .eq => fun pins s σ H x y v u Q I rx ry h => by
    rcases h with ⟨a, b, rfl, rfl, q⟩ | h
    · exact op_eq pins s σ H _ _ v u Q I rx ry ⟨rfl, by rw [dec_strV]; exact q⟩
    · rcases h with h | h
      · exact op_eqD hu pins s σ H x y v u Q I rx ry h
      · exact op_eqDic hu pins s σ H x y v u Q I rx ry h
  | .ne => fun pins s σ H x y v u Q I rx ry h => by
    rcases h with ⟨a, b, rfl, rfl, q⟩ | h
    · exact op_ne pins s σ H _ _ v u Q I rx ry ⟨rfl, by rw [dec_strV]; exact q⟩
    · rcases h with h | h
      · exact op_neD hu pins s σ H x y v u Q I rx ry h
      · exact op_neDic hu pins s σ H x y v u Q I rx ry h
  | .is => op_isN
  | .isnot => op_notN
  | .inn => fun pins s σ H x y v u Q I rx ry h => by
    rcases h with (h | h) | h | h
    · exact op_in_seq pins s σ H x y v u Q I rx ry h
    · exact op_inNon hu pins s σ H x y v u Q I rx ry h
    · exact op_in_str pins s σ H x y v u Q I rx ry h
    · exact op_inDic hu pins s σ H x y v u Q I rx ry h
  | .notin => fun pins s σ H x y v u Q I rx ry h => by
    rcases h with (h | h) | h | h
    · exact op_notIn_seq pins s σ H x y v u Q I rx ry h
    · exact op_notInNon hu pins s σ H x y v u Q I rx ry h
    · exact op_notin_str pins s σ H x y v u Q I rx ry h
    · exact op_notInDic hu pins s σ H x y v u Q I rx ry h
theorem RD.non_iff {G : Gm} {ρ : List Addr} {H : Hp} {α : List Addr} {d : D} {v : V} (r : RD G ρ H α d v) (e : v = .non) : d = .non := by
  subst e
  cases d with
  | non => rfl
  | bl _ => cases r
  | int _ => cases r
  | str _ => cases r
  | tup _ => obtain ⟨a, vs, z, _⟩ := r; cases z
  | lst _ => obtain ⟨a, vs, z, _⟩ := r; cases z
  | ref _ => obtain ⟨a, z, _⟩ := r; cases z
  | exc _ _ => obtain ⟨a, _, _, z, _⟩ := r; cases z
  | dic0 => obtain ⟨a, z, _⟩ := r; cases z
theorem strs_rds {G : Gm} {ρ α : List Addr} {H : Hp} : ∀ {xs : List D} {vs : List V} {bs : List Str}, RDs G ρ H α xs vs → strsD xs = some bs → vs = bs.map V.str
  | [], vs, bs, r, e => by cases e; exact r
  | x :: xs, vs, bs, r, e => by
    obtain ⟨v, vs', rfl, r1, rs⟩ := r
    cases x <;> simp only [strsD] at e <;> try contradiction
    split at e <;> try contradiction
    rename_i is h
    cases e; cases r1
    rw [strs_rds rs h]; rfl
theorem ints_rds' {G : Gm} {ρ α : List Addr} {H : Hp} : ∀ {xs : List D} {vs : List V} {bs : List Int}, RDs G ρ H α xs vs → intsD xs = some bs → vs = bs.map V.int
  | [], vs, bs, r, e => by cases e; exact r
  | x :: xs, vs, bs, r, e => by
    obtain ⟨v, vs', rfl, r1, rs⟩ := r
    cases x <;> simp only [intsD] at e <;> try contradiction
    split at e <;> try contradiction
    rename_i is h
    cases e; cases r1
    rw [ints_rds' rs h]; rfl
theorem inV_strs (a : Str) : ∀ ss : List Str, inV (.str a) (ss.map V.str) = decide (a ∈ ss) ∧ (ss.map V.str).all flatV = true
  | [] => ⟨rfl, rfl⟩
  | b :: ss => by
    obtain ⟨h1, h2⟩ := inV_strs a ss
    refine ⟨?_, h2⟩
    show (b == a || inV (.str a) (ss.map V.str)) = _
    rw [h1]
    by_cases h : b = a
    · subst h; simp
    · have h' : ¬ a = b := fun z => h z.symm
      simp [h, h']
theorem inV_ints (a : Int) : ∀ ss : List Int, inV (.int a) (ss.map V.int) = decide (a ∈ ss) ∧ (ss.map V.int).all flatV = true
  | [] => ⟨rfl, rfl⟩
  | b :: ss => by
    obtain ⟨h1, h2⟩ := inV_ints a ss
    refine ⟨?_, h2⟩
    show (b == a || inV (.int a) (ss.map V.int)) = _
    rw [h1]
    by_cases h : b = a
    · subst h; simp
    · have h' : ¬ a = b := fun z => h z.symm
      simp [h, h']
theorem inL_val {neg : Bool} {ρ : List Addr} {H : Hp} {α : List Addr} {M : Mem} {k : Bool → Prop} {Qv : VK} {x y : D} {v u : V} (rm : RM (gx X cad) ρ H α M) (r1 : RD (gx X cad) ρ H α x v) (r2 : RD (gx X cad) ρ H α y u)
    (c : inL M x y k) (hk : ∀ b, k b → Qv (.bl (if neg then !b else b)) H) : rIn X.K neg v u H Qv ∨ rInN X.K neg v u H Qv := by
  obtain ⟨ys, e, c⟩ := c.inv
  obtain ⟨a, vs, rfl, sq, rs⟩ := seq_of rm r2 e
  rcases c with ⟨s, ss, rfl, e2, q⟩ | ⟨s, ss, rfl, e2, q⟩ | ⟨ds, rfl, e2, sh, q⟩
  · cases r1
    have ev := strs_rds rs e2
    subst ev
    obtain ⟨i1, i2⟩ := inV_strs s ss
    refine .inl ⟨a, _, rfl, sq, rfl, i2, ?_⟩
    rw [i1]; exact hk _ q
  · cases r1
    have ev := ints_rds' rs e2
    subst ev
    obtain ⟨i1, i2⟩ := inV_ints s ss
    refine .inl ⟨a, _, rfl, sq, rfl, i2, ?_⟩
    rw [i1]; exact hk _ q
  · cases r1
    exact .inr ⟨ds, rfl, dp_ofM rm y _ _ r2 e2, sh, hk _ q⟩
theorem in_val {neg : Bool} {ρ : List Addr} {H : Hp} {α : List Addr} {M : Mem} {k : Bool → Prop} {Qv : VK} {x y : D} {v u : V} (rm : RM (gx X cad) ρ H α M) (r1 : RD (gx X cad) ρ H α x v) (r2 : RD (gx X cad) ρ H α y u)
    (c : inD M x y k) (hk : ∀ b, k b → Qv (.bl (if neg then !b else b)) H) : rInA X.K neg v u H Qv := by
  rcases c.inv with ⟨a, b, rfl, rfl, q⟩ | ⟨n, kvs, key, rfl, hm, hkey, q⟩ | c
  · cases r1; cases r2
    exact .inr (.inl ⟨_, _, rfl, rfl, hk _ q⟩)
  · obtain ⟨a, rfl, ha⟩ := r2
    obtain ⟨ws, h1, h2, h3⟩ := rm.get ha hm
    refine .inr (.inr ⟨a, ws, key, rfl, h1, keyD_rel hkey r1, ?_⟩)
    rw [← val_some h2 h3]
    exact hk _ q
  · exact .inl (inL_val rm r1 r2 c hk)
theorem cmp_val {op : Cop} {ρ : List Addr} {H : Hp} {α : List Addr} {M : Mem} {k : Bool → Prop} {Qv : VK} {x y : D} {v u : V} (rm : RM (gx X cad) ρ H α M) (r1 : RD (gx X cad) ρ H α x v) (r2 : RD (gx X cad) ρ H α y u)
    (c : cmpD op M x y k) (hk : ∀ b, k b → Qv (.bl b) H) : rCop X.K op v u H Qv := by
  cases op with
  | lt => simp only [cmpD] at c; split at c <;> try contradiction
          cases r1; cases r2; exact ⟨_, _, rfl, rfl, hk _ c⟩
  | le =>
    rcases leD.inv c with ⟨i, j, rfl, rfl, c⟩ | ⟨xs, ys, ns, ms, rfl, rfl, h1, h2, c⟩
    · cases r1; cases r2; exact .inl ⟨_, _, rfl, rfl, hk _ c⟩
    · obtain ⟨a, vs, rfl, t1, rs1⟩ := r1
      obtain ⟨b, us, rfl, t2, rs2⟩ := r2
      have e1 := ints_rds' rs1 h1
      have e2 := ints_rds' rs2 h2
      subst e1 e2
      exact .inr ⟨a, b, ns, ms, rfl, rfl, t1.sqt, t2.sqt, hk _ c⟩
  | gt => simp only [cmpD] at c; split at c <;> try contradiction
          cases r1; cases r2; exact ⟨_, _, rfl, rfl, hk _ c⟩
  | ge => simp only [cmpD] at c; split at c <;> try contradiction
          cases r1; cases r2; exact ⟨_, _, rfl, rfl, hk _ c⟩
  | eq =>
    simp only [cmpD] at c
    split at c
    · cases r1; cases r2
      exact .inl ⟨_, _, rfl, rfl, hk _ c⟩
    · obtain ⟨kvs, hm, c⟩ := dicD.inv c
      obtain ⟨a, rfl, ha⟩ := r1
      obtain ⟨ws, h1, h2, h3⟩ := rm.get ha hm
      obtain ⟨b, rfl, _, _, hb⟩ := r2
      refine .inr (.inr ⟨a, b, ws, rfl, rfl, h1, hb, ?_⟩)
      have e : kvs.isEmpty = ws.isEmpty := by rw [← empty_len, ← empty_len, len_rel h2]
      show Qv (.bl _) H
      simp only [Bool.false_eq_true, if_false, if_true]
      rw [← e]
      exact hk _ c
    · split at c <;> try contradiction
      rename_i d e h1 h2
      exact .inr <| .inl ⟨d, e, dp_ofM rm x v d r1 h1, dp_ofM rm y u e r2 h2, c.1, c.2.1, hk _ c.2.2⟩
  | ne =>
    simp only [cmpD] at c
    split at c
    · cases r1; cases r2
      exact .inl ⟨_, _, rfl, rfl, hk _ c⟩
    · obtain ⟨kvs, hm, c⟩ := dicD.inv c
      obtain ⟨a, rfl, ha⟩ := r1
      obtain ⟨ws, h1, h2, h3⟩ := rm.get ha hm
      obtain ⟨b, rfl, _, _, hb⟩ := r2
      refine .inr (.inr ⟨a, b, ws, rfl, rfl, h1, hb, ?_⟩)
      have e : kvs.isEmpty = ws.isEmpty := by rw [← empty_len, ← empty_len, len_rel h2]
      show Qv (.bl _) H
      simp only [Bool.false_eq_true, if_false, if_true]
      rw [← e]
      exact hk _ c
    · split at c <;> try contradiction
      rename_i d e h1 h2
      exact .inr <| .inl ⟨d, e, dp_ofM rm x v d r1 h1, dp_ofM rm y u e r2 h2, c.1, c.2.1, hk _ c.2.2⟩
  | is =>
    simp only [cmpD] at c
    split at c <;> try contradiction
    · cases r1; cases r2; exact ⟨rfl, hk _ (by simpa using c)⟩
    · rename_i h; cases r2
      refine ⟨rfl, hk _ ?_⟩
      have : ¬ v = .non := fun z => h (r1.non_iff z)
      rw [decide_eq_false this]; exact c
  | isnot =>
    simp only [cmpD] at c
    split at c <;> try contradiction
    · cases r1; cases r2; exact ⟨rfl, hk _ (by simpa using c)⟩
    · rename_i h; cases r2
      refine ⟨rfl, hk _ ?_⟩
      have : ¬ v = .non := fun z => h (r1.non_iff z)
      rw [decide_eq_false this]; exact c
  | inn => exact in_val rm r1 r2 c hk
  | notin => exact in_val (neg := true) (k := fun b => k (!b)) rm r1 r2 c fun b z => hk _ z
theorem u_cmp {Γ : Tab} {op : Cop} {a b : Expr} {a' b' : E} (hu : X.A.units + 64 < cLine) (hm : behindInMarks (copOf op) b = false) (ha : PEU X cad W a (wpE Γ a')) (hb : PEU X cad W b (wpE Γ b')) :
    PEU X cad W (.Compare a [copOf op] [b] pos) (wpE Γ (.cmp op a' b')) := by
  have q := (pe_cmpR (pos := pos) (cop_ok hu op) ha hb hm).mono (tOp_up (G := gx X cad) (W := W) (R := fun x y M Q => cmpD op M x y fun t => Q (.bl t) M) fun ρ H α M Q Qv x y v u rm r1 r2 c hq =>
    cmp_val rm r1 r2 c fun b z => hq _ _ z _ _ _ (Nx.refl ..) rfl rm)
  simpa only [wpE] using q
theorem u_cmpT {Γ : Tab} {op : Cop} {a b : Expr} {a' b' : E} (hu : X.A.units + 64 < cLine) (hm : behindInMarks (copOf op) b = false) (ha : PEU X cad W a (wpE Γ a')) (hb : PEU X cad W b (wpE Γ b')) :
    PTU X cad W (.Compare a [copOf op] [b] pos) (wpT Γ (.cmp op a' b')) := by
  refine (pt_cmpR (pos := pos) (cop_ok hu op) ha hb hm).mono fun σ H Qv ⟨ρ, δ, α, M, Q', X', rs, rm, t, hq, hx⟩ => ?_
  simp only [wpT] at t
  refine ⟨ρ, δ, α, M, _, _, rs, rm, t, fun x M1 q v H1 α1 n1 r1 m1 => ?_, hx⟩
  refine ⟨ρ, δ, α1, M1, _, _, rs.nx n1, m1, q, fun y M2 q2 u H2 α2 n2 r2 m2 => ?_, fun c d M' x => (hx c d M' x).nx n1⟩
  exact cmp_val m2 (r1.nx n2) r2 q2 fun b z => ⟨b, rfl, hq _ _ z _ _ (n1.trans n2) m2⟩
theorem u_chain {Γ : Tab} {op op' : Cop} {a b c : Expr} {a' b' c' : E} (hu : X.A.units + 64 < cLine) (hm : lastMarks [copOf op, copOf op'] [b, c] = false) (ha : PEU X cad W a (wpE Γ a')) (hb : PEU X cad W b (wpE Γ b')) (hc : PEU X cad W c (wpE Γ c')) :
    PEU X cad W (.Compare a [copOf op, copOf op'] [b, c] pos) (wpE Γ (.chain op op' a' b' c')) := by
  refine (pe_chain (pos := pos) (cop_ok hu op) (cop_ok hu op') ha hb hc hm).mono fun σ H Qv ⟨ρ, δ, α, M, Q', X', rs, rm, t, hq, hx⟩ => ?_
  simp only [wpE] at t
  refine ⟨ρ, δ, α, M, _, _, rs, rm, t, fun x M1 q v H1 α1 n1 r1 m1 => ?_, hx⟩
  refine ⟨ρ, δ, α1, M1, _, _, rs.nx n1, m1, q, fun y M2 q2 u H2 α2 n2 r2 m2 => ?_, fun c d M' x => (hx c d M' x).nx n1⟩
  refine cmp_val m2 (r1.nx n2) r2 q2 fun k z => ⟨k, rfl, ?_⟩
  cases k with
  | true =>
    rw [if_pos rfl]
    rw [if_pos rfl] at z
    refine ⟨ρ, δ, α2, M2, _, _, rs.nx (n1.trans n2), m2, z, fun y' M3 q3 w H3 α3 n3 r3 m3 => ?_, fun c d M' x => (hx c d M' x).nx (n1.trans n2)⟩
    exact cmp_val m3 (r2.nx n3) r3 q3 fun b z => hq _ _ z _ _ _ ((n1.trans n2).trans n3) rfl m3
  | false =>
    rw [if_neg Bool.false_ne_true]
    rw [if_neg Bool.false_ne_true] at z
    exact hq _ _ z _ _ _ (n1.trans n2) rfl m2
theorem u_chainT {Γ : Tab} {op op' : Cop} {a b c : Expr} {a' b' c' : E} (hu : X.A.units + 64 < cLine) (hm : lastMarks [copOf op, copOf op'] [b, c] = false) (ha : PEU X cad W a (wpE Γ a')) (hb : PEU X cad W b (wpE Γ b')) (hc : PEU X cad W c (wpE Γ c')) :
    PTU X cad W (.Compare a [copOf op, copOf op'] [b, c] pos) (wpT Γ (.chain op op' a' b' c')) := by
  refine (pt_chain (pos := pos) (cop_ok hu op) (cop_ok hu op') ha hb hc hm).mono fun σ H Qv ⟨ρ, δ, α, M, Q', X', rs, rm, t, hq, hx⟩ => ?_
  simp only [wpT] at t
  refine ⟨ρ, δ, α, M, _, _, rs, rm, t, fun x M1 q v H1 α1 n1 r1 m1 => ?_, hx⟩
  refine ⟨ρ, δ, α1, M1, _, _, rs.nx n1, m1, q, fun y M2 q2 u H2 α2 n2 r2 m2 => ?_, fun c d M' x => (hx c d M' x).nx n1⟩
  refine cmp_val m2 (r1.nx n2) r2 q2 fun k z => ⟨k, rfl, ?_⟩
  cases k with
  | true =>
    rw [if_pos rfl]
    rw [if_pos rfl] at z
    refine ⟨ρ, δ, α2, M2, _, _, rs.nx (n1.trans n2), m2, z, fun y' M3 q3 w H3 α3 n3 r3 m3 => ?_, fun c d M' x => (hx c d M' x).nx (n1.trans n2)⟩
    exact cmp_val m3 (r2.nx n3) r3 q3 fun b z => ⟨b, rfl, hq _ _ z _ _ ((n1.trans n2).trans n3) m3⟩
  | false =>
    rw [if_neg Bool.false_ne_true]
    rw [if_neg Bool.false_ne_true] at z
    exact ⟨_, rfl, hq _ _ z _ _ (n1.trans n2) m2⟩

/-! ### and, or, not, if -/
theorem u_neg {Γ : Tab} {a : Expr} {a' : E} (ha : PEU X cad W a (wpE Γ a')) : PEU X cad W (.UnaryOp .USub a pos) (wpE Γ (.neg a')) := by
  refine (pe_un (pos := pos) un_neg ha).mono fun σ H Qv ⟨ρ, δ, α, M, Q', X', rs, rm, t, hq, hx⟩ => ?_
  simp only [wpE] at t
  refine ⟨ρ, δ, α, M, _, _, rs, rm, t, fun x M1 q v H1 α1 n1 r1 m1 => ?_, hx⟩
  obtain ⟨i, rfl, q'⟩ := q.inv
  cases r1
  exact ⟨_, rfl, hq _ _ q' _ _ _ n1 rfl m1⟩
theorem u_and {Γ : Tab} {a b : Expr} {rest : List Expr} {a' b' : E} (ha : PEU X cad W a (wpE Γ a')) (hb : PEU X cad W (.BoolOp .And (b :: rest) pos) (wpE Γ b')) : PEU X cad W (.BoolOp .And (a :: b :: rest) pos) (wpE Γ (.and_ a' b')) := by
  refine (pe_and (pos := pos) ha hb).mono fun σ H Qv ⟨ρ, δ, α, M, Q', X', rs, rm, t, hq, hx⟩ => ?_
  simp only [wpE] at t
  refine ⟨ρ, δ, α, M, _, _, rs, rm, t, fun x M1 q v H1 α1 n1 r1 m1 => ?_, hx⟩
  obtain ⟨c, rfl, q'⟩ := q.inv; clear q; have q := q'
  cases r1
  refine ⟨c, rfl, ?_⟩
  cases c with
  | true => rw [if_pos rfl] at q ⊢; exact ⟨ρ, δ, α1, M1, _, _, rs.nx n1, m1, q, fun d M' z => (hq d M' z).nx n1, fun c d M' x => (hx c d M' x).nx n1⟩
  | false => rw [if_neg Bool.false_ne_true] at q ⊢; exact hq _ _ q _ _ _ n1 rfl m1
theorem u_or {Γ : Tab} {a b : Expr} {rest : List Expr} {a' b' : E} (ha : PEU X cad W a (wpE Γ a')) (hb : PEU X cad W (.BoolOp .Or (b :: rest) pos) (wpE Γ b')) : PEU X cad W (.BoolOp .Or (a :: b :: rest) pos) (wpE Γ (.or_ a' b')) := by
  refine (pe_or (pos := pos) ha hb).mono fun σ H Qv ⟨ρ, δ, α, M, Q', X', rs, rm, t, hq, hx⟩ => ?_
  simp only [wpE] at t
  refine ⟨ρ, δ, α, M, _, _, rs, rm, t, fun x M1 q v H1 α1 n1 r1 m1 => ?_, hx⟩
  obtain ⟨c, rfl, q'⟩ := q.inv; clear q; have q := q'
  cases r1
  refine ⟨c, rfl, ?_⟩
  cases c with
  | false => rw [if_neg Bool.false_ne_true] at q ⊢; exact ⟨ρ, δ, α1, M1, _, _, rs.nx n1, m1, q, fun d M' z => (hq d M' z).nx n1, fun c d M' x => (hx c d M' x).nx n1⟩
  | true => rw [if_pos rfl] at q ⊢; exact hq _ _ q _ _ _ n1 rfl m1
theorem u_andT {Γ : Tab} {a b : Expr} {rest : List Expr} {a' b' : E} (ha : PTU X cad W a (wpT Γ a')) (hb : PWU X cad W (.BoolOp .And (b :: rest) pos) (wpT Γ b')) : PWU X cad W (.BoolOp .And (a :: b :: rest) pos) (wpT Γ (.and_ a' b')) := by
  refine (pw_and (pos := pos) ha hb).mono fun σ H Qv ⟨ρ, δ, α, M, Q', X', rs, rm, t, hq, hx⟩ => ?_
  simp only [wpT] at t
  refine ⟨ρ, δ, α, M, _, _, rs, rm, t, fun c M1 q H1 α1 n1 m1 => ?_, hx⟩
  cases c with
  | true => rw [if_pos rfl] at q ⊢; exact ⟨ρ, δ, α1, M1, _, _, rs.nx n1, m1, q, fun d M' z => (hq d M' z).nx n1, fun c d M' x => (hx c d M' x).nx n1⟩
  | false => rw [if_neg Bool.false_ne_true] at q ⊢; exact hq _ _ q _ _ n1 m1
theorem u_orT {Γ : Tab} {a b : Expr} {rest : List Expr} {a' b' : E} (ha : PTU X cad W a (wpT Γ a')) (hb : PWU X cad W (.BoolOp .Or (b :: rest) pos) (wpT Γ b')) : PWU X cad W (.BoolOp .Or (a :: b :: rest) pos) (wpT Γ (.or_ a' b')) := by
  refine (pw_or (pos := pos) ha hb).mono fun σ H Qv ⟨ρ, δ, α, M, Q', X', rs, rm, t, hq, hx⟩ => ?_
  simp only [wpT] at t
  refine ⟨ρ, δ, α, M, _, _, rs, rm, t, fun c M1 q H1 α1 n1 m1 => ?_, hx⟩
  cases c with
  | false => rw [if_neg Bool.false_ne_true] at q ⊢; exact ⟨ρ, δ, α1, M1, _, _, rs.nx n1, m1, q, fun d M' z => (hq d M' z).nx n1, fun c d M' x => (hx c d M' x).nx n1⟩
  | true => rw [if_pos rfl] at q ⊢; exact hq _ _ q _ _ n1 m1
theorem u_notT {Γ : Tab} {a : Expr} {a' : E} (ha : PTU X cad W a (wpT Γ a')) : PTU X cad W (.UnaryOp .Not a pos) (wpT Γ (.not_ a')) := by
  refine (pt_not (pos := pos) ha).mono fun σ H Qv ⟨ρ, δ, α, M, Q', X', rs, rm, t, hq, hx⟩ => ?_
  simp only [wpT] at t
  exact ⟨ρ, δ, α, M, _, _, rs, rm, t, fun c M1 q H1 α1 n1 m1 => hq _ _ q _ _ n1 m1, hx⟩
theorem u_ife {Γ : Tab} {c a b : Expr} {c' a' b' : E} (hc : PTU X cad W c (wpT Γ c')) (ha : PEU X cad W a (wpE Γ a')) (hb : PEU X cad W b (wpE Γ b')) : PEU X cad W (.IfExp c a b pos) (wpE Γ (.ife c' a' b')) := by
  refine (pe_ifExp (pos := pos) hc ha hb).mono fun σ H Qv ⟨ρ, δ, α, M, Q', X', rs, rm, t, hq, hx⟩ => ?_
  simp only [wpE] at t
  refine ⟨ρ, δ, α, M, _, _, rs, rm, t, fun c M1 q H1 α1 n1 m1 => ?_, hx⟩
  cases c with
  | false => rw [if_neg Bool.false_ne_true] at q ⊢; exact ⟨ρ, δ, α1, M1, _, _, rs.nx n1, m1, q, fun d M' z => (hq d M' z).nx n1, fun c d M' x => (hx c d M' x).nx n1⟩
  | true => rw [if_pos rfl] at q ⊢; exact ⟨ρ, δ, α1, M1, _, _, rs.nx n1, m1, q, fun d M' z => (hq d M' z).nx n1, fun c d M' x => (hx c d M' x).nx n1⟩
end
end AA
/-! AA4: displays, subscripts, built-ins. -/
namespace AA
open PySem PySem.Spec L2
open PyProof.Rows hiding St

section
variable {X : Cx} {cad : Cad} {W : WX} {pos : Pos}
theorem new_lst {G : Gm} {ρ α : List Addr} {H : Hp} {M : Mem} {xs : List D} {vs : List V} {Q : DK} {Qv : VK} (rm : RM G ρ H α M) (r : RDs G ρ H α xs vs) (q : Q (.lst xs) M) (hq : ∀ d M', Q d M' → wv G ρ α H Qv d M')
    (p : Addr) (hp : H p = none) : Qv (.ref p) (upd H p (.lst vs)) := by
  refine hq _ _ q _ _ α (Nx.new hp) ⟨p, vs, rfl, .inl ⟨fun z => ?_, fun z => rm.rho p z (.inl hp), .inl upd_same⟩, r.nx (Nx.new (ρ := []) hp)⟩ (rm.new hp)
  obtain ⟨o, e⟩ := rm.mem z
  rw [hp] at e; cases e
theorem new_num {G : Gm} {ρ α : List Addr} {H : Hp} {M : Mem} {xs : List D} {vs : List V} {Q : DK} {Qv : VK} (rm : RM G ρ H α M) (r : RDs G ρ H α xs vs) (q : Q (.ref M.length) (M ++ [.lst xs])) (hq : ∀ d M', Q d M' → wv G ρ α H Qv d M')
    (p : Addr) (hp : H p = none) : Qv (.ref p) (upd H p (.lst vs)) := by
  refine hq _ _ q _ _ (α ++ [p]) (Nx.num hp) ⟨p, rfl, ?_⟩ (rm.num hp ⟨vs, upd_same, r.nx (Nx.num (ρ := []) hp)⟩)
  rw [← rm.len, List.getElem?_append_right (Nat.le_refl _)]; simp

/-! ### argument lists -/
theorem a_nil {Γ : Tab} : PAU X cad W [] (wpEs Γ .nil) := pa_nil.mono fun σ H Qv ⟨ρ, δ, α, M, Q', X', rs, rm, t, hq, hx⟩ => hq _ _ (by simpa only [wpEs] using t) _ _ _ (Nx.refl ..) RDs.nil rm
theorem a_cons {Γ : Tab} {e : Expr} {es : List Expr} {e' : E} {es' : Es} (hs : starEach (e :: es) X.env = (false, eval e X.env) :: starEach es X.env) (h1 : PEU X cad W e (wpE Γ e')) (h2 : PAU X cad W es (wpEs Γ es')) : PAU X cad W (e :: es) (wpEs Γ (.cons e' es')) := by
  refine (pa_cons h1 h2 hs).mono fun σ H Qv ⟨ρ, δ, α, M, Q', X', rs, rm, t, hq, hx⟩ => ?_
  simp only [wpEs] at t
  refine ⟨ρ, δ, α, M, _, _, rs, rm, t, fun x M1 q v H1 α1 n1 r1 m1 => ?_, hx⟩
  refine ⟨ρ, δ, α1, M1, _, _, rs.nx n1, m1, q, fun ys M2 q2 us H2 α2 n2 r2 m2 => ?_, fun c d M' x => (hx c d M' x).nx n1⟩
  exact hq _ _ q2 _ _ _ (n1.trans n2) (RDs.cons (r1.nx n2) r2) m2
theorem a_star {Γ : Tab} {e : Expr} {es : List Expr} {e' : E} {es' : Es} {p : Pos} (h1 : PEU X cad W e (wpE Γ e')) (h2 : PAU X cad W es (wpEs Γ es')) : PAU X cad W (.Starred e p :: es) (wpEs Γ (.star e' es')) := by
  refine (StX.pa_star (p := p) h1 h2).mono fun σ H Qv ⟨ρ, δ, α, M, Q', X', rs, rm, t, hq, hx⟩ => ?_
  simp only [wpEs] at t
  refine ⟨ρ, δ, α, M, _, _, rs, rm, t, fun x M1 q v H1 α1 n1 r1 m1 => ?_, hx⟩
  obtain ⟨xs, e, q'⟩ := q.inv; clear q; have q := q'
  obtain ⟨a, vs, rfl, sq, rs1⟩ := seq_of m1 r1 e
  refine ⟨a, vs, rfl, sq.symm, ρ, δ, α1, M1, _, _, rs.nx n1, m1, q, fun ys M2 q2 us H2 α2 n2 r2 m2 => ?_, fun c d M' x => (hx c d M' x).nx n1⟩
  exact hq _ _ q2 _ _ _ (n1.trans n2) ((rs1.nx n2).append r2) m2
/-- arguments, then something by values -/
theorem tCB_up {G : Gm} {r : List V → Hp → VK → Prop} {ta : TAD} {R : List D → Mem → DK → Prop}
    (h : ∀ ρ H α M (Q : DK) (Qv : VK) ds vs, RM G ρ H α M → RDs G ρ H α ds vs → R ds M Q → (∀ d M', Q d M' → wv G ρ α H Qv d M') → r vs H Qv) :
    ∀ σ H Q, up G W (fun δ M Q Xc => ta δ M (fun ds M1 => R ds M1 Q) Xc) σ H Q → tCB r (upa G W ta) σ H Q := by
  rintro σ H Qv ⟨ρ, δ, α, M, Q', X', rs, rm, t, hq, hx⟩
  exact ⟨ρ, δ, α, M, _, _, rs, rm, t, fun ds M1 q vs H1 α1 n1 r1 m1 => h ρ H1 α1 M1 _ Qv ds vs m1 r1 q fun d M' z => (hq d M' z).nx n1, hx⟩
theorem u_tup {Γ : Tab} {es : List Expr} {es' : Es} {k : Nat} (h : PAU X cad W es (wpEs Γ es')) : PEU X cad W (.Tuple es k pos) (wpE Γ (.tup es')) := by
  refine (pe_tup (pos := pos) (x1 := k) h).mono fun σ H Qv ⟨ρ, δ, α, M, Q', X', rs, rm, t, hq, hx⟩ => ?_
  simp only [wpE] at t
  refine ⟨ρ, δ, α, M, _, _, rs, rm, t, fun ds M1 q vs H1 α1 n1 r1 m1 => ⟨by rw [sizeLine_eq, ← r1.length]; exact q.1, fun p hp => ?_⟩, hx⟩
  exact new_tup m1 r1 q.2 (fun d M' z => (hq d M' z).nx n1) p hp
theorem u_lst {Γ : Tab} {es : List Expr} {es' : Es} {m : Bool} (h : PAU X cad W es (wpEs Γ es')) : PEU X cad W (.List es pos) (wpE Γ (.lst m es')) := by
  refine (pe_lst (pos := pos) h).mono fun σ H Qv ⟨ρ, δ, α, M, Q', X', rs, rm, t, hq, hx⟩ => ?_
  cases m with
  | false =>
    simp only [wpE] at t
    refine ⟨ρ, δ, α, M, _, _, rs, rm, t, fun ds M1 q vs H1 α1 n1 r1 m1 => ⟨by rw [sizeLine_eq, ← r1.length]; exact q.1, fun p hp => ?_⟩, hx⟩
    exact new_lst m1 r1 q.2 (fun d M' z => (hq d M' z).nx n1) p hp
  | true =>
    simp only [wpE] at t
    refine ⟨ρ, δ, α, M, _, _, rs, rm, t, fun ds M1 q vs H1 α1 n1 r1 m1 => ⟨by rw [sizeLine_eq, ← r1.length]; exact q.1, fun p hp => ?_⟩, hx⟩
    exact new_num m1 r1 q.2 (fun d M' z => (hq d M' z).nx n1) p hp

/-! ### subscripts -/
theorem atI_rds {G : Gm} {ρ α : List Addr} {H : Hp} {xs : List D} {vs : List V} {i : Int} {d : D} (r : RDs G ρ H α xs vs) (h : atI xs i = some d) : ∃ v, atI vs i = some v ∧ RD G ρ H α d v := by
  unfold atI at h ⊢
  rw [r.length] at h
  cases e : ixN vs.length i with
  | none => rw [e] at h; cases h
  | some j =>
    rw [e] at h
    obtain ⟨v, h1, h2⟩ := r.get (show xs[j]? = some d from h)
    exact ⟨v, h1, h2⟩
theorem u_idx {Γ : Tab} {a b : Expr} {a' b' : E} (hu : X.A.units + 64 < cLine) (hs : PlainIx b) (ha : PEU X cad W a (wpE Γ a')) (hb : PEU X cad W b (wpE Γ b')) : PEU X cad W (.Subscript a b pos) (wpE Γ (.idx a' b')) := by
  have q := (pe_ix (pos := pos) (((ix_list.or ix_tup).or ix_str).or (ix_dic (Nat.lt_of_le_of_lt (Nat.add_le_add_left (by decide) _) hu))) ha hb hs).mono (tOp_up (G := gx X cad) (W := W)
    (R := fun x y M Q => idxD M x y fun d => Q d M) fun ρ H α M Q Qv x y v u rm r1 r2 c hq => by
      rcases c.inv with ⟨xs, j, d, rfl, h1, hd, c⟩ | ⟨z, j, e, rfl, rfl, hz, he, c⟩ | ⟨key, n, kvs, d, hk, rfl, hm, hv, c⟩
      · cases r2
        obtain ⟨a, vs, rfl, sq, rs⟩ := seq_of rm r1 h1
        obtain ⟨w, h2, h3⟩ := atI_rds rs hd
        have z := hq _ _ c w H α (Nx.refl ..) h3 rm
        rcases sq with sq | sq
        · exact .inl (.inl (.inl ⟨a, vs, j, w, rfl, rfl, sq, h2, z⟩))
        · exact .inl (.inl (.inr ⟨a, vs, j, w, rfl, rfl, sq, h2, z⟩))
      · cases r1; cases r2
        exact .inl (.inr ⟨z, j, e, rfl, rfl, by rw [sizeLine_eq]; exact hz, he, hq _ _ c _ H α (Nx.refl ..) rfl rm⟩)
      · have ek := keyD_rel hk r2
        obtain ⟨a, rfl, ha⟩ := r1
        obtain ⟨ws, h1, h2, h3⟩ := rm.get ha hm
        rcases val_rel key h2 h3 with ⟨e1, _⟩ | ⟨d', v', e1, e2, r3⟩
        · rw [hv] at e1; cases e1
        · rw [hv] at e1; cases e1
          exact .inr ⟨a, ws, key, v', rfl, ek, h1, e2, hq _ _ c _ H α (Nx.refl ..) r3 rm⟩)
  simpa only [wpE] using q
def upo (G : Gm) (W : WX) (t : Dst → Mem → (Option Int → Mem → Prop) → XD → Prop) : TO := fun σ H Q => ∃ ρ δ α M Q' X', RS G ρ H α δ σ ∧ RM G ρ H α M ∧ t δ M Q' X' ∧ (∀ o M', Q' o M' → ∀ H' α', Nx [] α H α' H' → RM G ρ H' α' M' → Q o H') ∧ (∀ c d M', X' c d M' → wx G W ρ α H σ c d M')
theorem o_none {Γ : Tab} : PO X none (upo (gx X cad) W (wpO Γ .no)) := ⟨fun pins s σ H Qv I ⟨ρ, δ, α, M, Q', X', rs, rm, t, hq, hx⟩ => po_none.run pins s σ H Qv I (hq _ _ (by simpa only [wpO] using t) _ _ (Nx.refl ..) rm)⟩
theorem o_some {Γ : Tab} {e : Expr} {e' : E} (h : PEU X cad W e (wpE Γ e')) : PO X (some e) (upo (gx X cad) W (wpO Γ (.so e'))) := by
  refine ⟨fun pins s σ H Qv I ⟨ρ, δ, α, M, Q', X', rs, rm, t, hq, hx⟩ => (po_some h).run pins s σ H Qv I ?_⟩
  simp only [wpO] at t
  refine ⟨ρ, δ, α, M, _, _, rs, rm, t, fun x M1 q v H1 α1 n1 r1 m1 => ?_, hx⟩
  obtain ⟨i, rfl, q'⟩ := q.inv
  cases r1
  exact ⟨_, rfl, hq _ _ q' _ _ n1 m1⟩
theorem cut_rds {G : Gm} {ρ α : List Addr} {H : Hp} {xs : List D} {vs : List V} (r : RDs G ρ H α xs vs) (lo hi : Option Int) : RDs G ρ H α (cutL xs lo hi) (cutV vs lo hi) := by
  unfold cutV cutL
  rw [r.length]
  exact (r.drop _).take _
theorem u_slc {Γ : Tab} {a : Expr} {lo hi : Option Expr} {a' : E} {l' h' : Op} {p2 : Pos} (ha : PEU X cad W a (wpE Γ a')) (hl : PO X lo (upo (gx X cad) W (wpO Γ l'))) (hh : PO X hi (upo (gx X cad) W (wpO Γ h'))) :
    PEU X cad W (.Subscript a (.Slice lo hi none p2) pos) (wpE Γ (.slc a' l' h')) := by
  refine (pe_slice (pos := pos) (p2 := p2) ((sl_tupA.or sl_list).or sl_str) ha hl hh).mono fun σ H Qv ⟨ρ, δ, α, M, Q', X', rs, rm, t, hq, hx⟩ => ?_
  simp only [wpE] at t
  refine ⟨ρ, δ, α, M, _, _, rs, rm, t, fun x M1 q v H1 α1 n1 r1 m1 => ?_, hx⟩
  refine ⟨ρ, δ, α1, M1, _, _, rs.nx n1, m1, q, fun o M2 q2 H2 α2 n2 m2 => ?_, fun c d M' x => (hx c d M' x).nx n1⟩
  refine ⟨ρ, δ, α2, M2, _, _, rs.nx (n1.trans n2), m2, q2, fun o2 M3 q3 H3 α3 n3 m3 => ?_, fun c d M' x => (hx c d M' x).nx (n1.trans n2)⟩
  have hq' : ∀ d M', Q' d M' → wv (gx X cad) ρ α3 H3 Qv d M' := fun d M' z => (hq d M' z).nx ((n1.trans n2).trans n3)
  have r3 := r1.nx (n2.trans n3)
  unfold slcD at q3
  split at q3 <;> try contradiction
  · split at q3 <;> try contradiction
    rename_i xs hm
    obtain ⟨a, rfl, ha⟩ := id r3
    obtain ⟨vs, h1, h2⟩ := m3.get ha hm
    exact .inl (.inr ⟨a, vs, rfl, SqL.of h1, fun p hp => new_lst m3 (cut_rds h2 o o2) q3 hq' p hp⟩)
  · rename_i xs
    obtain ⟨a, vs, rfl, t1, rs1⟩ := id r3
    refine .inl (.inl ⟨a, vs, rfl, t1.sqt, fun e => ?_, fun _ p hp => new_tup m3 (cut_rds rs1 o o2) q3 hq' p hp⟩)
    have e1 : cutL xs o o2 = xs := by
      unfold cutL
      rw [rs1.length, e.1, e.2, ← rs1.length]
      simp
    rw [e1] at q3
    exact hq' _ _ q3 _ _ _ (Nx.refl ..) r3 m3
  · obtain ⟨a, vs, rfl, t1, rs1⟩ := id r3
    exact .inl (.inr ⟨a, vs, rfl, t1.sql, fun p hp => new_lst m3 (cut_rds rs1 o o2) q3 hq' p hp⟩)
  · cases r3
    exact .inr ⟨_, rfl, by rw [sizeLine_eq]; exact q3.1, hq' _ _ q3.2 _ _ _ (Nx.refl ..) rfl m3⟩

/-- what lstD tells -/
theorem lst_of {G : Gm} {ρ α : List Addr} {H : Hp} {M : Mem} (rm : RM G ρ H α M) {d : D} {v : V} {xs : List D} (r : RD G ρ H α d v) (e : lstD M d = some xs) : ∃ a vs, v = .ref a ∧ SqL G.K H a vs ∧ RDs G ρ H α xs vs := by
  cases d with
  | lst ys => obtain ⟨a, vs, rfl, t, rs⟩ := r; cases e; exact ⟨a, vs, rfl, t.sql, rs⟩
  | ref n =>
    obtain ⟨a, rfl, ha⟩ := r
    simp only [lstD] at e
    split at e
    · rename_i ys hm
      cases e
      obtain ⟨vs, h1, h2⟩ := rm.get ha hm
      exact ⟨a, vs, rfl, SqL.of h1, h2⟩
    · cases e
  | _ => cases e
/-- a list cut: the new one is numbered -/
theorem u_slcm {Γ : Tab} {a : Expr} {lo hi : Option Expr} {a' : E} {l' h' : Op} {p2 : Pos} (ha : PEU X cad W a (wpE Γ a')) (hl : PO X lo (upo (gx X cad) W (wpO Γ l'))) (hh : PO X hi (upo (gx X cad) W (wpO Γ h'))) :
    PEU X cad W (.Subscript a (.Slice lo hi none p2) pos) (wpE Γ (.slcm a' l' h')) := by
  refine (pe_slice (pos := pos) (p2 := p2) sl_list ha hl hh).mono fun σ H Qv ⟨ρ, δ, α, M, Q', X', rs, rm, t, hq, hx⟩ => ?_
  simp only [wpE] at t
  refine ⟨ρ, δ, α, M, _, _, rs, rm, t, fun x M1 q v H1 α1 n1 r1 m1 => ?_, hx⟩
  refine ⟨ρ, δ, α1, M1, _, _, rs.nx n1, m1, q, fun o M2 q2 H2 α2 n2 m2 => ?_, fun c d M' x => (hx c d M' x).nx n1⟩
  refine ⟨ρ, δ, α2, M2, _, _, rs.nx (n1.trans n2), m2, q2, fun o2 M3 q3 H3 α3 n3 m3 => ?_, fun c d M' x => (hx c d M' x).nx (n1.trans n2)⟩
  have hq' : ∀ d M', Q' d M' → wv (gx X cad) ρ α3 H3 Qv d M' := fun d M' z => (hq d M' z).nx ((n1.trans n2).trans n3)
  have r3 := r1.nx (n2.trans n3)
  obtain ⟨xs, e, q4⟩ := q3.inv
  obtain ⟨a, vs, rfl, sq, rs1⟩ := lst_of m3 r3 e
  exact ⟨a, vs, rfl, sq, fun p hp => new_num m3 (cut_rds rs1 o o2) q4 hq' p hp⟩

/-! ### built-ins -/
theorem bls_rds {G : Gm} {ρ α : List Addr} {H : Hp} : ∀ {xs : List D} {vs : List V} {bs : List Bool}, RDs G ρ H α xs vs → blsD xs = some bs → vs = bs.map V.bl
  | [], vs, bs, r, e => by cases e; exact r
  | x :: xs, vs, bs, r, e => by
    obtain ⟨v, vs', rfl, r1, rs⟩ := r
    cases x <;> simp only [blsD] at e <;> try contradiction
    split at e <;> try contradiction
    rename_i is h
    cases e; cases r1
    rw [bls_rds rs h]; rfl
theorem ints_rds {G : Gm} {ρ α : List Addr} {H : Hp} : ∀ {xs : List D} {vs : List V} {bs : List Int}, RDs G ρ H α xs vs → intsD xs = some bs → vs = bs.map V.int
  | [], vs, bs, r, e => by cases e; exact r
  | x :: xs, vs, bs, r, e => by
    obtain ⟨v, vs', rfl, r1, rs⟩ := r
    cases x <;> simp only [intsD] at e <;> try contradiction
    split at e <;> try contradiction
    rename_i is h
    cases e; cases r1
    rw [ints_rds rs h]; rfl
def biS : Bi → String
  | .len => "len" | .abs => "abs" | .sum => "sum" | .all => "all" | .any => "any" | .min2 => "min" | .max2 => "max" | .min1 => "min" | .max1 => "max"
  | .int => "int" | .list => "list" | .tuple => "tuple" | .repr => "repr" | .str => "str" | .sorted => "sorted"
def rMinT (K : PySem.W.Frag) : List V → Hp → VK → Prop := fun vs H Q => ∃ (a : Addr) (ns : List Int), vs = [V.ref a] ∧ SqT K H a (ns.map V.int) ∧ 0 < ns.length ∧ ∀ m, m ∈ ns → (∀ y, y ∈ ns → m ≤ y) → Q (.int m) H
def rMaxT (K : PySem.W.Frag) : List V → Hp → VK → Prop := fun vs H Q => ∃ (a : Addr) (ns : List Int), vs = [V.ref a] ∧ SqT K H a (ns.map V.int) ∧ 0 < ns.length ∧ ∀ m, m ∈ ns → (∀ y, y ∈ ns → y ≤ m) → Q (.int m) H
theorem fold_min : ∀ (ns : List Int) (n : Int), ns.foldl min n ∈ n :: ns ∧ ∀ y ∈ n :: ns, ns.foldl min n ≤ y
  | [], n => ⟨by simp, fun y hy => by simp at hy; simp [hy]⟩
  | k :: ns, n => by
    obtain ⟨h1, h2⟩ := fold_min ns (min n k)
    rw [List.foldl_cons]
    have h0 := h2 (min n k) List.mem_cons_self
    refine ⟨?_, fun y hy => ?_⟩
    · rcases List.mem_cons.mp h1 with e | h1
      · rw [e]
        by_cases z : n ≤ k
        · rw [Int.min_eq_left z]; simp
        · rw [Int.min_eq_right (by omega)]; simp
      · exact List.mem_cons_of_mem _ (List.mem_cons_of_mem _ h1)
    · rcases List.mem_cons.mp hy with e | hy
      · subst e; omega
      · rcases List.mem_cons.mp hy with e | hy
        · subst e; omega
        · exact h2 y (List.mem_cons_of_mem _ hy)
theorem fold_max : ∀ (ns : List Int) (n : Int), ns.foldl max n ∈ n :: ns ∧ ∀ y ∈ n :: ns, y ≤ ns.foldl max n
  | [], n => ⟨by simp, fun y hy => by simp at hy; simp [hy]⟩
  | k :: ns, n => by
    obtain ⟨h1, h2⟩ := fold_max ns (max n k)
    rw [List.foldl_cons]
    have h0 := h2 (max n k) List.mem_cons_self
    refine ⟨?_, fun y hy => ?_⟩
    · rcases List.mem_cons.mp h1 with e | h1
      · rw [e]
        by_cases z : n ≤ k
        · rw [Int.max_eq_right z]; simp
        · rw [Int.max_eq_left (by omega)]; simp
      · exact List.mem_cons_of_mem _ (List.mem_cons_of_mem _ h1)
    · rcases List.mem_cons.mp hy with e | hy
      · subst e; omega
      · rcases List.mem_cons.mp hy with e | hy
        · subst e; omega
        · exact h2 y (List.mem_cons_of_mem _ hy)
theorem alike_ints (ns : List Int) : PySem.W.AlikeAll (ns.map PyData.int) := by
  constructor
  · intro x hx y hy
    obtain ⟨a, _, rfl⟩ := List.mem_map.mp hx
    obtain ⟨b, _, rfl⟩ := List.mem_map.mp hy
    rfl
  · intro x hx
    obtain ⟨a, _, rfl⟩ := List.mem_map.mp hx
    intro z; cases z
theorem deepL_ints : ∀ ns : List Int, PyData.depthAll (ns.map PyData.int) ≤ 1
  | [] => by simp [PyData.depthAll]
  | n :: ns => by
    have := deepL_ints ns
    simp only [List.map_cons, PyData.depthAll, PyData.depth]
    omega
theorem cr_minT (hc : X.calm = true) (hu : X.A.units + 64 < cLine) : CallR X (.builtin "min") (rMinT X.K) := by
  intro pins s σ H vs us Q I r h
  obtain ⟨a, ns, rfl, hs, hne, q⟩ := h
  obtain ⟨its, rv, hl, _⟩ := I.tuple hs
  rw [Vals.ref1 r]
  match ns, hne with
  | n :: ns, _ =>
    have d := deepL_ints (n :: ns)
    refine PySem.W.min_tuple_data (x := .int n) (xs := ns.map .int) (I.ok.hd hc) hl (by have := (rv.ints).reads s.heap; simpa using this) (alike_ints (n :: ns)) (by rw [List.map_cons] at d; omega) fun i v h' tk bs _ rd hk => ?_
    rw [PySem.W.minD_ints] at rd
    obtain ⟨f1, f2⟩ := fold_min ns n
    cases rd
    exact ⟨.int _, H, I.kept hk, ⟨_, rfl⟩, q _ f1 f2⟩
theorem cr_maxT (hc : X.calm = true) (hu : X.A.units + 64 < cLine) : CallR X (.builtin "max") (rMaxT X.K) := by
  intro pins s σ H vs us Q I r h
  obtain ⟨a, ns, rfl, hs, hne, q⟩ := h
  obtain ⟨its, rv, hl, _⟩ := I.tuple hs
  rw [Vals.ref1 r]
  match ns, hne with
  | n :: ns, _ =>
    have d := deepL_ints (n :: ns)
    refine PySem.W.max_tuple_data (x := .int n) (xs := ns.map .int) (I.ok.hd hc) hl (by have := (rv.ints).reads s.heap; simpa using this) (alike_ints (n :: ns)) (by rw [List.map_cons] at d; omega) fun i v h' tk bs _ rd hk => ?_
    rw [PySem.W.maxD_ints] at rd
    obtain ⟨f1, f2⟩ := fold_max ns n
    cases rd
    exact ⟨.int _, H, I.kept hk, ⟨_, rfl⟩, q _ f1 f2⟩
def biTy : Bi → Bool
  | .int => true | .list => true | .tuple => true | .str => true | _ => false
def biV (b : Bi) : Value := if biTy b = true then .type (biS b) else .builtin (biS b)
def rReprD (K : PySem.W.Frag) (rp : PyData → Str) : List V → Hp → VK → Prop := fun xs H Q => ∃ x p, xs = [x] ∧ Dp K H x p ∧ ReprOk p ∧ Q (.str (rp p)) H
/-- a built-in's rule by values -/
def rBi (K : PySem.W.Frag) (rp : PyData → Str) : Bi → List V → Hp → VK → Prop
  | .len => fun xs H Q => (∃ x n, xs = [x] ∧ LenV K x H n ∧ Q (.int n) H) ∨ ∃ a kvs, xs = [V.ref a] ∧ H a = some (.dK kvs) ∧ Q (.int kvs.length) H
  | .abs => fun xs H Q => ∃ i, xs = [.int i] ∧ Q (.int (if i < 0 then -i else i)) H
  | .sum => rSum K
  | .all => rAll K
  | .any => rAny K
  | .min2 => fun xs H Q => ∃ i j, xs = [.int i, .int j] ∧ Q (.int (if j < i then j else i)) H
  | .max2 => fun xs H Q => ∃ i j, xs = [.int i, .int j] ∧ Q (.int (if j > i then j else i)) H
  | .int => fun xs H Q => (∃ i, xs = [.int i] ∧ Q (.int i) H) ∨ (∃ k, xs = [.bl k] ∧ Q (.int (if k then 1 else 0)) H) ∨ ∃ a n, xs = [.str a] ∧ PySem.intText? a = some n ∧ a.length ≤ 640 ∧ Q (.int n) H
  | .tuple => fun xs H Q => (∃ p ys, xs = [.ref p] ∧ ((SqL K H p ys ∧ ∀ l, H l = none → Q (.ref l) (upd H l (.tup ys))) ∨ (SqT K H p ys ∧ Q (.ref p) H))) ∨ ∃ p kvs, xs = [.ref p] ∧ H p = some (.dK kvs) ∧ ∀ q, H q = none → Q (.ref q) (upd H q (.tup (kvs.map fun kv => kV kv.1)))
  | .list => fun xs H Q => ∃ p ys, xs = [.ref p] ∧ (SqL K H p ys ∨ SqT K H p ys) ∧ ∀ l, H l = none → Q (.ref l) (upd H l (.lst ys))
  | .repr => rReprD K rp
  | .str => fun xs H Q => ∃ i, xs = [.int i] ∧ i.natAbs.log2 < 1920 ∧ Q (.str (toString i)) H
  | .sorted => rSortedI K
  | .min1 => fun xs H Q => rMin K xs H Q ∨ rMinT K xs H Q
  | .max1 => fun xs H Q => rMax K xs H Q ∨ rMaxT K xs H Q
theorem bi_ok {rp : PyData → Str} (hc : X.calm = true) (hu : X.A.units + 64 < cLine) (hrp : CallR X (.builtin "repr") (rReprD X.K rp)) : ∀ b : Bi, CallR X (biV b) (rBi X.K rp b)
  | .len => fun pins s σ H vs us Q I r h => by
    rcases h with h | h
    · exact call_len pins s σ H vs us Q I r h
    · exact call_lenD pins s σ H vs us Q I r h
  | .abs => call_abs
  | .sum => cr_sum hc
  | .all => cr_all hc
  | .any => cr_any hc
  | .min2 => call_min2 hc
  | .max2 => call_max2 hc
  | .int => fun pins s σ H vs us Q I r h => by
    rcases h with h | h | h
    · exact call_int1 pins s σ H vs us Q I r (.inl h)
    · exact call_int1 pins s σ H vs us Q I r (.inr h)
    · exact call_int_str pins s σ H vs us Q I r h
  | .tuple => fun pins s σ H vs us Q I r h => by
    rcases h with h | h
    · exact call_tuple_of pins s σ H vs us Q I r h
    · exact call_tuple_dK hc pins s σ H vs us Q I r h
  | .list => call_list_of
  | .repr => hrp
  | .min1 => fun pins s σ H vs us Q I r h => by
    rcases h with h | h
    · exact cr_min hc pins s σ H vs us Q I r h
    · exact cr_minT hc hu pins s σ H vs us Q I r h
  | .max1 => fun pins s σ H vs us Q I r h => by
    rcases h with h | h
    · exact cr_max hc pins s σ H vs us Q I r h
    · exact cr_maxT hc hu pins s σ H vs us Q I r h
  | .str => call_str_int
  | .sorted => cr_sortedI
theorem RDs.one {G : Gm} {ρ α : List Addr} {H : Hp} {d : D} {vs : List V} (r : RDs G ρ H α [d] vs) : ∃ v, vs = [v] ∧ RD G ρ H α d v := by
  obtain ⟨v, vs', rfl, r1, rs⟩ := r
  rw [show vs' = [] from rs]
  exact ⟨v, rfl, r1⟩
theorem RDs.two {G : Gm} {ρ α : List Addr} {H : Hp} {d e : D} {vs : List V} (r : RDs G ρ H α [d, e] vs) : ∃ v u, vs = [v, u] ∧ RD G ρ H α d v ∧ RD G ρ H α e u := by
  obtain ⟨v, vs', rfl, r1, rs⟩ := r
  obtain ⟨u, rfl, r2⟩ := rs.one
  exact ⟨v, u, rfl, r1, r2⟩
theorem bi_val {rp : PyData → Str} {b : Bi} {ρ : List Addr} {H : Hp} {α : List Addr} {M : Mem} {Q : DK} {Qv : VK} {ds : List D} {vs : List V} (rm : RM (gx X cad) ρ H α M) (r : RDs (gx X cad) ρ H α ds vs)
    (c : biD rp b ds M fun d => Q d M) (hq : ∀ d M', Q d M' → wv (gx X cad) ρ α H Qv d M') : rBi X.K rp b vs H Qv := by
  have fin : ∀ {d : D} {v : V}, Q d M → RD (gx X cad) ρ H α d v → Qv v H := fun q r => hq _ _ q _ _ _ (Nx.refl ..) r rm
  unfold biD at c
  split at c <;> try contradiction
  · obtain ⟨v, rfl, r1⟩ := r.one
    cases r1
    exact .inl ⟨_, _, rfl, ⟨by rw [sizeLine_eq]; exact c.1, rfl⟩, fin c.2 rfl⟩
  · obtain ⟨v, rfl, r1⟩ := r.one
    obtain ⟨a, rfl, ha⟩ := id r1
    split at c <;> try contradiction
    · rename_i xs hm
      obtain ⟨us, h1, h2⟩ := rm.get ha hm
      refine .inl ⟨_, us.length, rfl, .inl ⟨us, SqL.of h1, rfl⟩, by rw [← h2.length]; exact fin c rfl⟩
    · rename_i kvs hm
      obtain ⟨ws, h1, h2, h3⟩ := rm.get ha hm
      exact .inr ⟨a, ws, rfl, h1, by rw [← len_rel h2]; exact fin c rfl⟩
  · obtain ⟨v, rfl, r1⟩ := r.one
    split at c <;> try contradiction
    rename_i xs h
    obtain ⟨a, us, rfl, sq, rs⟩ := seq_of rm r1 h
    refine .inl ⟨_, us.length, rfl, ?_, by rw [← rs.length]; exact fin c rfl⟩
    rcases sq with sq | sq
    · exact .inl ⟨us, sq, rfl⟩
    · exact .inr ⟨us, sq, rfl⟩
  · obtain ⟨v, rfl, r1⟩ := r.one
    cases r1
    exact ⟨_, rfl, fin c rfl⟩
  · obtain ⟨v, rfl, r1⟩ := r.one
    split at c <;> try contradiction
    rename_i xs h
    split at c <;> try contradiction
    rename_i is h2
    obtain ⟨a, us, rfl, sq, rs⟩ := lst_of rm r1 h
    have e := ints_rds rs h2
    subst e
    exact ⟨a, is, rfl, sq, fin c rfl⟩
  · obtain ⟨v, rfl, r1⟩ := r.one
    split at c <;> try contradiction
    rename_i xs h
    split at c <;> try contradiction
    rename_i is h2
    obtain ⟨a, us, rfl, sq, rs⟩ := lst_of rm r1 h
    have e := bls_rds rs h2
    subst e
    exact ⟨a, is, rfl, sq, fin c rfl⟩
  · obtain ⟨v, rfl, r1⟩ := r.one
    split at c <;> try contradiction
    rename_i xs h
    split at c <;> try contradiction
    rename_i is h2
    obtain ⟨a, us, rfl, sq, rs⟩ := lst_of rm r1 h
    have e := bls_rds rs h2
    subst e
    exact ⟨a, is, rfl, sq, fin c rfl⟩
  · obtain ⟨v, u, rfl, r1, r2⟩ := r.two
    cases r1; cases r2
    exact ⟨_, _, rfl, fin c rfl⟩
  · obtain ⟨v, u, rfl, r1, r2⟩ := r.two
    cases r1; cases r2
    exact ⟨_, _, rfl, fin c rfl⟩
  · obtain ⟨v, rfl, r1⟩ := r.one
    cases r1
    exact .inl ⟨_, rfl, fin c rfl⟩
  · obtain ⟨v, rfl, r1⟩ := r.one
    cases r1
    exact .inr (.inl ⟨_, rfl, fin c rfl⟩)
  · obtain ⟨v, rfl, r1⟩ := r.one
    cases r1
    split at c <;> try contradiction
    rename_i n hn
    exact .inr (.inr ⟨_, n, rfl, hn, c.1, fin c.2 rfl⟩)
  · obtain ⟨v, rfl, r1⟩ := r.one
    obtain ⟨a, us, rfl, t, rs⟩ := id r1
    exact .inl ⟨a, us, rfl, .inr ⟨t.sqt, fin c r1⟩⟩
  · obtain ⟨v, rfl, r1⟩ := r.one
    obtain ⟨a, us, rfl, t, rs⟩ := id r1
    exact .inl ⟨a, us, rfl, .inl ⟨t.sql, fun l hl => new_tup rm rs c hq l hl⟩⟩
  · obtain ⟨v, rfl, r1⟩ := r.one
    obtain ⟨a, rfl, ha⟩ := id r1
    split at c <;> try contradiction
    · rename_i xs hm
      obtain ⟨us, h1, h2⟩ := rm.get ha hm
      exact .inl ⟨a, us, rfl, .inl ⟨SqL.of h1, fun l hl => new_tup rm h2 c hq l hl⟩⟩
    · rename_i kvs hm
      obtain ⟨ws, h1, h2, h3⟩ := rm.get ha hm
      refine .inr ⟨a, ws, rfl, h1, fun l hl => new_tup rm ?_ c hq l hl⟩
      have e1 : (kvs.map fun kv => keyV kv.1) = (kvs.map (·.1)).map keyV := by rw [List.map_map]; rfl
      have e2 : (ws.map fun kv => kV kv.1) = (ws.map (·.1)).map kV := by rw [List.map_map]; rfl
      rw [e1, e2, h2]
      exact keys_rds _
  · obtain ⟨v, rfl, r1⟩ := r.one
    obtain ⟨a, us, rfl, t, rs⟩ := id r1
    exact ⟨a, us, rfl, .inr t.sqt, fun l hl => new_lst rm rs c hq l hl⟩
  · obtain ⟨v, rfl, r1⟩ := r.one
    obtain ⟨a, us, rfl, t, rs⟩ := id r1
    exact ⟨a, us, rfl, .inl t.sql, fun l hl => new_lst rm rs c hq l hl⟩
  · obtain ⟨v, rfl, r1⟩ := r.one
    obtain ⟨a, rfl, ha⟩ := id r1
    split at c <;> try contradiction
    rename_i xs hm
    obtain ⟨us, h1, h2⟩ := rm.get ha hm
    exact ⟨a, us, rfl, .inl (SqL.of h1), fun l hl => new_lst rm h2 c hq l hl⟩
  · obtain ⟨v, rfl, r1⟩ := r.one
    split at c <;> try contradiction
    rename_i xs h
    split at c <;> try contradiction
    rename_i is h2
    obtain ⟨a, us, rfl, sq, rs⟩ := seq_of rm r1 h
    have e := ints_rds rs h2
    subst e
    rcases sq with sq | sq
    · exact .inl ⟨a, is, rfl, sq, List.length_pos_iff.mpr c.1, fun m h3 h4 => fin (c.2 m h3 h4) rfl⟩
    · exact .inr ⟨a, is, rfl, sq, List.length_pos_iff.mpr c.1, fun m h3 h4 => fin (c.2 m h3 h4) rfl⟩
  · obtain ⟨v, rfl, r1⟩ := r.one
    split at c <;> try contradiction
    rename_i xs h
    split at c <;> try contradiction
    rename_i is h2
    obtain ⟨a, us, rfl, sq, rs⟩ := seq_of rm r1 h
    have e := ints_rds rs h2
    subst e
    rcases sq with sq | sq
    · exact .inl ⟨a, is, rfl, sq, List.length_pos_iff.mpr c.1, fun m h3 h4 => fin (c.2 m h3 h4) rfl⟩
    · exact .inr ⟨a, is, rfl, sq, List.length_pos_iff.mpr c.1, fun m h3 h4 => fin (c.2 m h3 h4) rfl⟩
  · obtain ⟨v, rfl, r1⟩ := r.one
    cases r1
    exact ⟨_, rfl, c.1, fin c.2 rfl⟩
  · obtain ⟨v, rfl, r1⟩ := r.one
    split at c <;> try contradiction
    rename_i xs h
    split at c <;> try contradiction
    rename_i is h2
    obtain ⟨a, us, rfl, sq, rs⟩ := lst_of rm r1 h
    have e := ints_rds rs h2
    subst e
    exact ⟨a, is, rfl, sq, fun js p h3 h4 hp => new_lst rm (RDs.of_ints js) (c js h3 h4) hq p hp⟩
  · obtain ⟨v, rfl, r1⟩ := r.one
    split at c <;> try contradiction
    rename_i p hp
    exact ⟨v, p, rfl, dp_ofM rm _ _ _ r1 hp, c.1, fin c.2 rfl⟩
theorem biV_boot : ∀ b : Bi, bootBuiltins (biS b) = some (biV b) := by
  intro b; cases b <;> decide +kernel
theorem bi_name : ∀ b : Bi, (Str.ofString (biS b) ≠ "__name__") ∧ ((Str.ofString (biS b)) == ("__debug__" : Str)) = false := by
  intro b; cases b <;> decide +kernel
/-- what the module says of the built-ins -/
structure BiOk (X : Cx) (rp : PyData → Str) : Prop where
  no : ∀ b : Bi, X.mg (biS b) = none
  rp : CallR X (.builtin "repr") (rReprD X.K rp)
theorem u_bi {Γ : Tab} {b : Bi} {e : Expr} {es : List Expr} {es' : Es} {p : Pos} (B : BiOk X Γ.rp) (hc : X.calm = true) (hu : X.A.units + 64 < cLine) (hg : Gl X (biS b)) (ha : PAU X cad W (e :: es) (wpEs Γ es'))
    (he : starEach (e :: es) X.env = (false, eval e X.env) :: starEach es X.env) (hpl : (backTo pos (starEach es X.env)).any (·.1) = false) : PEU X cad W (.Call (.Name (biS b) p) (e :: es) [] pos) (wpE Γ (.bi b es')) := by
  have ok := bi_ok hc hu B.rp b
  have bt := biV_boot b
  have up' := tCB_up (G := gx X cad) (W := W) (ta := wpEs Γ es') (r := rBi X.K Γ.rp b) (R := fun ds M Q => biD Γ.rp b ds M fun d => Q d M) fun ρ H α M Q Qv ds vs rm r c hq => bi_val rm r c hq
  unfold biV at ok bt
  by_cases ht : biTy b = true
  · rw [if_pos ht] at ok bt
    have q := (pe_callTy (p := p) (pos := pos) ok hg (B.no b) bt ha (bi_name b).1 (bi_name b).2 he hpl).mono up'
    simpa only [wpE] using q
  · rw [if_neg ht] at ok bt
    have q := (pe_callB (p := p) (pos := pos) ok hg (B.no b) bt ha (bi_name b).1 (bi_name b).2 he hpl).mono up'
    simpa only [wpE] using q
end
end AA
/-! AA5: calls, isinstance, walks, comprehensions. -/
namespace AA
open PySem PySem.Spec L2
open PyProof.Rows hiding St

/-- a def's promise -/
def lsp (G : Gm) (f : Fn) : Sp := fun vs H Q E => ∃ ds ρ α M Q' X', RDs G ρ H α ds vs ∧ RM G ρ H α M ∧ ds.length = f.par.length ∧ f.sp ds M Q' X' ∧ (∀ d M', Q' d M' → wv G ρ α H Q d M') ∧
  (∀ c d M', X' c d M' → ∀ dx dv H' α', Nx [] α H α' H' → dx ∉ α' → dx ∉ ρ → H' dx = some (.xd [("value", dv)]) → RD G ρ H' α' d dv → RM G ρ H' α' M' → E (.ref (G.cad c)) (some dx) H')
theorem lsp_len {G : Gm} {f : Fn} {vs : List V} {H : Hp} {Q : VK} {E : XK} (h : lsp G f vs H Q E) : vs.length = f.par.length := by
  obtain ⟨ds, ρ, α, M, Q', X', r, rm, hl, _⟩ := h
  rw [← r.length, hl]
/-- a def keeps its promise wherever no display is under way -/
structure FnG (P : Program) (w : World) (K : PySem.W.Frag) (mg : Str → Option Value) (base : Heap) (k : Nat) (fa : Addr) (fd : FuncData) (ps : List Str) (sp : Sp) : Prop where
  len : ∀ vs H Q E, sp vs H Q E → vs.length = ps.length
  run : ∀ (A : Around) (callers : List Env) (s : Shared) (H : Hp) (args : Args) (us : List Value) (vs : List V) (Q : VK) (E : XK), A.guards = some [] → Room k A → Env0 P w K mg base A callers s H →
    BindsTo s fd args (ps.zip us) → Vals vs us → sp vs H Q E → codeAny (model P w) A (.call (.ref fa) args) (CR (L2.CX P w) callers P w H s Q E) s
theorem FnG.mono {P : Program} {w : World} {K : PySem.W.Frag} {mg : Str → Option Value} {base : Heap} {j k : Nat} {fa : Addr} {fd : FuncData} {ps : List Str} {sp : Sp} (F : FnG P w K mg base j fa fd ps sp) (h : j ≤ k) : FnG P w K mg base k fa fd ps sp :=
  ⟨F.len, fun A callers s H args us vs Q E hg hr => F.run A callers s H args us vs Q E hg (hr.mono h)⟩
/-- a def by its body -/
theorem fnG_of {P : Program} {w : World} {K : PySem.W.Frag} {mg : Str → Option Value} {base : Heap} {k : Nat} {x qual : Str} {st : Stmt} {fa : Addr} {fd : FuncData} {N ps : List Str} {sp : Sp} (Fu : Fun K x qual st fa fd) (S : FnScope N ps (defScope st))
    (len : ∀ vs H Q E, sp vs H Q E → vs.length = ps.length)
    (hbody : ∀ (cdv : Value) (A : Around) (callers : List Env) (s : Shared) (H : Hp) (vs : List V) (Q : VK) (E : XK), fd.code = cdv → A.guards = some [] → Room k (A.deeper (envOfC qual (defScope st) s.heap.objs.size fa cdv)) → sp vs H Q E →
      ∃ t, PSs (cxOf (L2.CX P w) P w K mg base N qual (defScope st) fa cdv A callers s H E) (defBody st) t ∧ t { nx := fun _ H1 => Q .non H1, rt := Q } (start N vs) H) : FnG P w K mg base (k + 1) fa fd ps sp := by
  obtain ⟨oc, od, kv, doc, pm, an, cdv, ct, osl, rfl, lk, hcd⟩ := Fu.ex
  refine ⟨len, fun A callers s H args us vs Q E gd hr e0 hb rv hsp => ?_⟩
  have KX : K.In s.heap := e0.mod.kin.keeps fun b o e => (e0.bs b o e).1
  have nol : s.heap.NoLimit := e0.mod.nolimit.keeps fun b o e => (e0.bs b o e).1
  have kinds : ∀ y ∈ ps.zip us, (defScope st).names.lookup y.1 = some .local ∨ ((defScope st).names.lookup y.1 = some .cell ∧ ((cellsFrom (s.heap.objs.size + 1) (defScope st).names []).lookup y.1).isSome = true) := fun y hy => by
    have hm : y.1 ∈ ps := (List.of_mem_zip (show (y.1, y.2) ∈ ps.zip us from hy)).1
    rcases S.par y.1 hm with q | q
    · exact Or.inl q
    · exact Or.inr ⟨q, PySem.W.cellsFrom_some _ _ _ (Or.inl q)⟩
  refine codeAny_call_function hr.depth (KX _ _ lk) rfl S.co S.gen rfl (PySem.W.codeRec_of KX hcd) (hb _ _ _ _ ?_)
  refine wpAny_newFunctionEnv_cells S.kind kinds fun env he s1 st1 => ?_
  subst he
  refine ⟨nol.keeps st1.toInCall.keep, codeAny_func ?_⟩
  obtain ⟨t, ht, hq⟩ := hbody cdv A callers s H vs Q E rfl gd (hr.deeper _) hsp
  have I0 := inv_start (CX := L2.CX P w) (P := P) (w := w) (E := E) S hr.hd e0 (len _ _ _ _ hsp) rv st1
  refine wpAny_mono (ht.run [] s1 (start N vs) H _ I0 hq) (fun fl s2 hs => ?_) fun _ _ hs => hs
  cases fl with
  | ret u =>
    obtain ⟨v, σ1, H1, J, r1, q⟩ := hs
    exact ⟨v, H1, J.os, J.bare, J.base, J.hok, r1, q⟩
  | next =>
    obtain ⟨σ1, H1, J, q⟩ := hs
    exact ⟨V.non, H1, J.os, J.bare, J.base, J.hok, rfl, q⟩
  | brk => obtain ⟨_, _, _, q⟩ := hs; exact q.elim
  | cont => obtain ⟨_, _, _, q⟩ := hs; exact q.elim
/-- where a def stands: a name of the module, or a class -/
def AtN (K : PySem.W.Frag) (cad : Cad) (mg : Str → Option Value) (f : Fn) (fa : Addr) : Prop := match f.own with
  | none => mg f.name = some (.ref fa) ∧ PySem.W.keepIn K (.ref fa) = true
  | some (c, .init, _) => mg f.name = some (.ref (cad c)) ∧ Mk K (cad c) fa
  | some (c, .meth, m) => Cls K (cad c) ∧ Meth K (cad c) m fa
  | some (c, .prop, m) => Cls K (cad c) ∧ ∃ p, PropOf K (cad c) m p fa
theorem AtN.glob {K : PySem.W.Frag} {cad : Cad} {mg : Str → Option Value} {f : Fn} {fa : Addr} (h : AtN K cad mg f fa) (e : f.own = none) : mg f.name = some (.ref fa) ∧ PySem.W.keepIn K (.ref fa) = true := by
  unfold AtN at h; rw [e] at h; exact h
theorem AtN.init {K : PySem.W.Frag} {cad : Cad} {mg : Str → Option Value} {f : Fn} {fa : Addr} {c : Nat} {m : Str} (h : AtN K cad mg f fa) (e : f.own = some (c, .init, m)) : mg f.name = some (.ref (cad c)) ∧ Mk K (cad c) fa := by
  unfold AtN at h; rw [e] at h; exact h
theorem AtN.meth {K : PySem.W.Frag} {cad : Cad} {mg : Str → Option Value} {f : Fn} {fa : Addr} {c : Nat} {m : Str} (h : AtN K cad mg f fa) (e : f.own = some (c, .meth, m)) : Cls K (cad c) ∧ Meth K (cad c) m fa := by
  unfold AtN at h; rw [e] at h; exact h
theorem AtN.prop {K : PySem.W.Frag} {cad : Cad} {mg : Str → Option Value} {f : Fn} {fa : Addr} {c : Nat} {m : Str} (h : AtN K cad mg f fa) (e : f.own = some (c, .prop, m)) : Cls K (cad c) ∧ ∃ p, PropOf K (cad c) m p fa := by
  unfold AtN at h; rw [e] at h; exact h
/-- a make and a getter take one call more -/
def slack (f : Fn) : Nat := match f.own with
  | some (_, .init, _) => 1
  | some (_, .prop, _) => 1
  | _ => 0
/-- a def of the module keeps its promise -/
structure FnI (P : Program) (w : World) (K : PySem.W.Frag) (cad : Cad) (mg : Str → Option Value) (base : Heap) (L : Nat) (f : Fn) : Prop where
  dbg : (f.name == ("__debug__" : Str)) = false
  exs : ∃ (fa : Addr) (fd : FuncData) (L' : Nat), L' + slack f ≤ L ∧ FnG P w K mg base L' fa fd f.par (lsp ⟨K, cad⟩ f) ∧ AtN K cad mg f fa ∧ Binds K fd f.par [] ∧
    (f.kw = true → ∀ (s : Shared) (ws : List Value), K.In s.heap → ws.length = f.par.length → BindsTo s fd ⟨[], f.par.zip ws⟩ (f.par.zip ws))
theorem FnI.ex {P : Program} {w : World} {K : PySem.W.Frag} {cad : Cad} {mg : Str → Option Value} {base : Heap} {L : Nat} {f : Fn} (I : FnI P w K cad mg base L f) : ∃ (fa : Addr) (fd : FuncData), FnG P w K mg base L fa fd f.par (lsp ⟨K, cad⟩ f) ∧ AtN K cad mg f fa ∧ Binds K fd f.par [] ∧
    (f.kw = true → ∀ (s : Shared) (ws : List Value), K.In s.heap → ws.length = f.par.length → BindsTo s fd ⟨[], f.par.zip ws⟩ (f.par.zip ws)) := by
  obtain ⟨fa, fd, L', h, F, r⟩ := I.exs
  exact ⟨fa, fd, F.mono (by omega), r⟩
theorem FnI.ex1 {P : Program} {w : World} {K : PySem.W.Frag} {cad : Cad} {mg : Str → Option Value} {base : Heap} {L : Nat} {f : Fn} (I : FnI P w K cad mg base L f) (e : slack f = 1) : ∃ (fa : Addr) (fd : FuncData) (L' : Nat), L' + 1 ≤ L ∧ FnG P w K mg base L' fa fd f.par (lsp ⟨K, cad⟩ f) ∧ AtN K cad mg f fa ∧ Binds K fd f.par [] ∧
    (f.kw = true → ∀ (s : Shared) (ws : List Value), K.In s.heap → ws.length = f.par.length → BindsTo s fd ⟨[], f.par.zip ws⟩ (f.par.zip ws)) := by
  obtain ⟨fa, fd, L', h, r⟩ := I.exs
  rw [e] at h
  exact ⟨fa, fd, L', h, r⟩
theorem FnI.mono {P : Program} {w : World} {K : PySem.W.Frag} {cad : Cad} {mg : Str → Option Value} {base : Heap} {j k : Nat} {f : Fn} (I : FnI P w K cad mg base j f) (h : j ≤ k) : FnI P w K cad mg base k f := by
  obtain ⟨d, fa, fd, L', h', r⟩ := I
  exact ⟨d, fa, fd, L', by omega, r⟩
/-- the call's end, taken -/
theorem call_end {X : Cx} {W : WX} {pins : List (Addr × Obj)} {σ : L2.St} {H : Hp} {s : Shared} {Q : VK} (tk : Takes X W) (I : Inv X pins σ H s) {A : Around} {c : Code} (h : codeAny (model X.prog X.w) A c (CR (L2.CX X.prog X.w) X.stack X.prog X.w H s Q (WE W σ)) s) :
    codeAny (model X.prog X.w) A c (wants (EP X pins σ Q) X.xe) s := by
  refine codeAny_mono h fun r s2 hq => ?_
  cases r with
  | error e => exact passAt tk σ pins H s e s2 I hq
  | ok fl =>
    cases fl with
    | ret u => exact I.after hq
    | next => exact False.elim hq
    | brk => exact False.elim hq
    | cont => exact False.elim hq
theorem run_fnG {X : Cx} {W : WX} {pins : List (Addr × Obj)} {σ : L2.St} {H : Hp} {s : Shared} {Q : VK} {us : List Value} {vs : List V} {k : Nat} {fa : Addr} {fd : FuncData} {ps : List Str} {sp : Sp} (F : FnG X.prog X.w X.K X.mg X.base k fa fd ps sp) (gd : X.A.guards = some [])
    (hr : Room k X.A) (hb : Binds X.K fd ps []) (tk : Takes X W) (I : Inv X pins σ H s) (r : Vals vs us) (h : sp vs H Q (WE W σ)) : wpAny (model X.prog X.w) X.A (call (.ref fa) us) (EP X pins σ Q) X.xe s := by
  have b := hb s us I.kIn (by rw [List.append_nil, ← r.length]; exact F.len _ _ _ _ h)
  rw [List.append_nil] at b
  exact wpAny_call (call_end tk I (F.run X.A X.stack s H ⟨us, []⟩ us vs Q (WE W σ) gd hr I.env0 b r h))
section
variable {X : Cx} {cad : Cad} {W : WX} {pos : Pos}
theorem u_call {Γ : Tab} {k L : Nat} {f : Fn} {e : Expr} {es : List Expr} {es' : Es} {p : Pos} (hf : Γ.fn[k]? = some f) (how : f.own = none) (I : FnI X.prog X.w X.K cad X.mg X.base L f) (gd : X.A.guards = some []) (hr : Room L X.A) (tk : Takes X W) (hg : Gl X f.name) (ha : PAU X cad W (e :: es) (wpEs Γ es'))
    (he : starEach (e :: es) X.env = (false, eval e X.env) :: starEach es X.env) (hpl : (backTo pos (starEach es X.env)).any (·.1) = false) : PEU X cad W (.Call (.Name f.name p) (e :: es) [] pos) (wpE Γ (.call k es')) := by
  obtain ⟨fa, fd, F, hat, hb, _⟩ := I.ex
  obtain ⟨hm, hk⟩ := hat.glob how
  refine ⟨fun pins s σ H Qv I0 ⟨ρ, δ, α, M, Q', X', rs, rm, t, hq, hx⟩ => ?_⟩
  simp only [wpE] at t
  refine wpAny_Call_Name_kw (ld_glob I0 hg hm ?_ I.dbg)
  refine PySem.W.callWith_K (h₀ := X.base) I0.ok.mod.kin hk (thn (ha.run pos pins s σ H (fun zs H2 => lsp ⟨X.K, cad⟩ f zs H2 Qv (WE W σ)) I0 ⟨ρ, δ, α, M, _, _, rs, rm, t, fun ds M1 q vs H1 α1 n1 r1 m1 => ?_, hx⟩) fun us s1 ⟨vs, H1, I1, r, q⟩ => ⟨I1.kIn, run_fnG F gd hr hb tk I1 r q⟩) he hpl
  obtain ⟨f', hf', hl, q'⟩ := q.inv
  rw [hf] at hf'; cases hf'
  exact ⟨ds, ρ, α1, M1, _, _, r1, m1, hl, q', fun d M' z => (hq d M' z).nx n1, fun c d M' x => (hx c d M' x).nx n1⟩
theorem u_call0 {Γ : Tab} {k L : Nat} {f : Fn} {p : Pos} (hf : Γ.fn[k]? = some f) (how : f.own = none) (I : FnI X.prog X.w X.K cad X.mg X.base L f) (gd : X.A.guards = some []) (hr : Room L X.A) (tk : Takes X W) (hg : Gl X f.name) : PEU X cad W (.Call (.Name f.name p) [] [] pos) (wpE Γ (.call k .nil)) := by
  obtain ⟨fa, fd, F, hat, hb, _⟩ := I.ex
  obtain ⟨hm, hk⟩ := hat.glob how
  refine ⟨fun pins s σ H Qv I0 ⟨ρ, δ, α, M, Q', X', rs, rm, t, hq, hx⟩ => ?_⟩
  simp only [wpE, wpEs] at t
  obtain ⟨f', hf', hl, q'⟩ := t.inv
  rw [hf] at hf'; cases hf'
  refine wpAny_Call_Name_kw (ld_glob I0 hg hm ?_ I.dbg)
  exact PySem.W.callWith_K0 I0.kIn hk (run_fnG (us := []) F gd hr hb tk I0 .nil ⟨[], ρ, α, M, _, _, RDs.nil, rm, hl, q', hq, hx⟩)
/-- keywords' values -/
abbrev PKU (X : Cx) (cad : Cad) (W : WX) (e : List Keyword) (t : TAD) : Prop := PK X e (upa (gx X cad) W t)
theorem PKmono {X : Cx} {e : List Keyword} {t t' : TA} (h : PK X e t) (f : ∀ σ H Q, t' σ H Q → t σ H Q) : PK X e t' := ⟨fun p pins s σ H Q I q => h.run p pins s σ H Q I (f _ _ _ q)⟩
theorem k_nil {Γ : Tab} : PKU X cad W [] (wpEs Γ .nil) := PKmono pk_nil fun σ H Qv ⟨ρ, δ, α, M, Q', X', rs, rm, t, hq, hx⟩ => hq _ _ (by simpa only [wpEs] using t) _ _ _ (Nx.refl ..) RDs.nil rm
theorem k_cons {Γ : Tab} {e : Expr} {es : List Keyword} {e' : E} {es' : Es} {nm : Option Str} {kp : Pos} (h1 : PEU X cad W e (wpE Γ e')) (h2 : PKU X cad W es (wpEs Γ es')) : PKU X cad W (⟨nm, e, kp⟩ :: es) (wpEs Γ (.cons e' es')) := by
  refine PKmono (pk_cons (nm := nm) (kpos := kp) h1 h2) fun σ H Qv ⟨ρ, δ, α, M, Q', X', rs, rm, t, hq, hx⟩ => ?_
  simp only [wpEs] at t
  refine ⟨ρ, δ, α, M, _, _, rs, rm, t, fun x M1 q v H1 α1 n1 r1 m1 => ?_, hx⟩
  refine ⟨ρ, δ, α1, M1, _, _, rs.nx n1, m1, q, fun ys M2 q2 us H2 α2 n2 r2 m2 => ?_, fun c d M' x => (hx c d M' x).nx n1⟩
  exact hq _ _ q2 _ _ _ (n1.trans n2) (RDs.cons (r1.nx n2) r2) m2
theorem u_callk {Γ : Tab} {k L : Nat} {f : Fn} {kws : List Keyword} {ks' : Es} {p : Pos} (hf : Γ.fn[k]? = some f) (how : f.own = none) (I : FnI X.prog X.w X.K cad X.mg X.base L f) (hkw : f.kw = true) (gd : X.A.guards = some []) (hr : Room L X.A) (tk : Takes X W) (hg : Gl X f.name) (ha : PKU X cad W kws (wpEs Γ ks'))
    (hall : (backToKw pos (keywordEach kws X.env)).all (·.1.isSome) = true) (hks : (backToKw pos (keywordEach kws X.env)).filterMap (·.1) = f.par)
    (hpl : ((backTo pos (starEach [] X.env)).any (·.1) || (backToKw pos (keywordEach kws X.env)).any (·.1.isNone)) = false) : PEU X cad W (.Call (.Name f.name p) [] kws pos) (wpE Γ (.callk k .nil ks')) := by
  obtain ⟨fa, fd, F, hat, _, hb⟩ := I.ex
  obtain ⟨hm, hk⟩ := hat.glob how
  refine ⟨fun pins s σ H Qv I0 ⟨ρ, δ, α, M, Q', X', rs, rm, t, hq, hx⟩ => ?_⟩
  simp only [wpE, wpEs, List.nil_append] at t
  refine wpAny_Call_Name_kw (ld_glob I0 hg hm ?_ I.dbg)
  refine PySem.W.callWith_KW0 (h₀ := X.base) I0.ok.mod.kin hk hall (thn (ha.run pos pins s σ H (fun zs H2 => lsp ⟨X.K, cad⟩ f zs H2 Qv (WE W σ)) I0 ⟨ρ, δ, α, M, _, _, rs, rm, t, fun ds M1 q vs H1 α1 n1 r1 m1 => ?_, hx⟩) fun ws s2 ⟨zs, H2, I2, rz, q2⟩ => ⟨I2.kIn, ?_⟩) hpl
  · obtain ⟨f', hf', hl, q'⟩ := q.inv
    rw [hf] at hf'; cases hf'
    exact ⟨ds, ρ, α1, M1, _, _, r1, m1, hl, q', fun d M' z => (hq d M' z).nx n1, fun c d M' x => (hx c d M' x).nx n1⟩
  · rw [hks]
    have hl := lsp_len q2
    have hl' : ws.length = f.par.length := by rw [← rz.length]; exact hl
    exact wpAny_call (call_end tk I2 (F.run X.A X.stack s2 H2 ⟨[], f.par.zip ws⟩ ws zs Qv (WE W σ) gd hr I2.env0 (hb hkw s2 ws I2.kIn hl') rz q2))

/-! ### isinstance -/
def tyS : Ty → String
  | .int => "int" | .bool => "bool" | .str => "str" | .tuple => "tuple" | .list => "list" | .dict => "dict" | .own _ => "" | .bi n => n
/-- the type's name of a plain datum -/
def tyN (M : Mem) : D → Option String
  | .non => some "NoneType" | .bl _ => some "bool" | .int _ => some "int" | .str _ => some "str" | .tup _ => some "tuple" | .lst _ => some "list"
  | .ref n => match M[n]? with | some (.lst _) => some "list" | some (.dct _) => some "dict" | _ => none
  | .exc _ _ => none
  | .dic0 => some "dict"
theorem tyN_of {ρ : List Addr} {H : Hp} {α : List Addr} {M : Mem} {d : D} {v : V} {n : String} (rm : RM (gx X cad) ρ H α M) (r : RD (gx X cad) ρ H α d v) (e : tyN M d = some n) : TyX X.K H v (.type n) := by
  cases d with
  | non => cases r; cases e; exact .base .non
  | bl _ => cases r; cases e; exact .base (.bl _)
  | int _ => cases r; cases e; exact .base (.int _)
  | str _ => cases r; cases e; exact .base (.str _)
  | tup _ =>
    obtain ⟨a, vs, rfl, t, rs⟩ := r; cases e
    rcases t with ⟨_, _, h | ⟨o, h⟩⟩ | ⟨o, its, n, h1, h2, _⟩
    · exact .base (.tup h)
    · exact .fTuple h
    · exact .kTuple h1 h2
  | lst _ =>
    obtain ⟨a, vs, rfl, t, rs⟩ := r; cases e
    rcases t with ⟨_, _, h | ⟨o, h⟩⟩ | ⟨o, its, n, h1, h2, _⟩
    · exact .base (.lst h)
    · exact .base (.frz h)
    · exact .kList h1 h2
  | ref k =>
    obtain ⟨a, rfl, ha⟩ := r
    simp only [tyN] at e
    split at e <;> try contradiction
    · rename_i xs hm
      cases e
      obtain ⟨us, h1, h2⟩ := rm.get ha hm
      exact .base (.lst h1)
    · rename_i xs hm
      cases e
      obtain ⟨us, h1, h2⟩ := rm.get ha hm
      exact .base (.dK h1)
  | exc _ _ => cases e
  | dic0 =>
    obtain ⟨a, rfl, _, _, h | ⟨o, h⟩⟩ := r <;> cases e
    · exact .base (.dK h)
    · exact .fDict h
/-- T's answers for plain data -/
def tyA : Ty → String → Option Bool
  | .own _, _ => none
  | .bi _, _ => none
  | t, n => kitB n (tyS t)
def isTy : Ty → Bool
  | .own _ => false | .bi _ => false | _ => true
theorem tyS_boot : ∀ t : Ty, isTy t = true → bootBuiltins (tyS t) = some (.type (tyS t)) ∧ (Str.ofString (tyS t) ≠ "__name__") ∧ ((Str.ofString (tyS t)) == ("__debug__" : Str)) = false := by
  intro t h
  cases t <;> first | decide +kernel | (exfalso; simp [isTy] at h; done)
theorem isi_boot : bootBuiltins "isinstance" = some (.builtin "isinstance") := by decide +kernel
theorem isiD_plain {t : Ty} (h : isTy t = true) {x : D} {M : Mem} {nc : Nat} {sub : Nat → Nat → Bool} {k : Bool → Prop} (c : isiD nc t x M sub k) : ∃ n b, tyN M x = some n ∧ kitB n (tyS t) = some b ∧ k b := by
  cases t <;> first | (exfalso; simp [isTy] at h; done) | (
    cases x <;> simp only [isiD] at c <;> first
      | exact c.elim
      | exact ⟨_, _, rfl, (by decide +kernel), c⟩
      | (split at c
         · rename_i xs hm
           exact ⟨"list", _, (by simp only [tyN, hm]), (by decide +kernel), c⟩
         · exact c.elim))
theorem u_isi {Γ : Tab} {t : Ty} {a : Expr} {a' : E} {p p2 : Pos} (ht : isTy t = true) (hm : X.mg "isinstance" = none) (hm2 : X.mg (tyS t) = none) (hg : Gl X "isinstance") (hg2 : Gl X (tyS t)) (ha : PEU X cad W a (wpE Γ a'))
    (hs : starEach [a, .Name (tyS t) p2] X.env = (false, eval a X.env) :: starEach [.Name (tyS t) p2] X.env) : PEU X cad W (.Call (.Name "isinstance" p) [a, .Name (tyS t) p2] [] pos) (wpE Γ (.isi a' t)) := by
  obtain ⟨b1, b2, b3⟩ := tyS_boot t ht
  have q := pe_callB (p := p) (pos := pos) call_isi hg hm isi_boot (pa_cons ha (pa_cons (pe_bltn (pos := p2) hg2 hm2 b1 (v := .ty (tyS t)) rfl b2 b3) pa_nil (by rfl)) hs) (by decide) (by decide) hs (by rfl)
  refine q.mono fun σ H Qv ⟨ρ, δ, α, M, Q', X', rs, rm, t0, hq, hx⟩ => ?_
  simp only [wpE] at t0
  refine ⟨ρ, δ, α, M, _, _, rs, rm, t0, fun x M1 q v H1 α1 n1 r1 m1 => ?_, hx⟩
  obtain ⟨n, b, h1, h2, h3⟩ := isiD_plain ht q
  exact ⟨v, _, _, _, b, rfl, .ty _, tyN_of m1 r1 h1, kit_ty h2, hq _ _ h3 _ _ _ n1 rfl m1⟩

/-! ### walks -/
theorem Own.rho {ρ α : List Addr} {H : Hp} {p a : Addr} {o u : HO} (w : Own ρ H α a u) (h : H p = none) : Own (p :: ρ) (upd H p o) α a u := by
  obtain ⟨h1, h2, h3⟩ := w
  have n : a ≠ p := by
    rcases h3 with h3 | ⟨z, h3⟩
    · exact ne_of_none h3 h
    · exact ne_of_none h3 h
  refine ⟨h1, by simp [n, h2], ?_⟩
  rcases h3 with h3 | ⟨z, h3⟩
  · exact .inl (by rw [upd_ne n]; exact h3)
  · exact .inr ⟨z, by rw [upd_ne n]; exact h3⟩
theorem TupAt.rho {K : PySem.W.Frag} {ρ α : List Addr} {H : Hp} {p a : Addr} {o : HO} {vs : List V} (w : TupAt K ρ H α a vs) (h : H p = none) : TupAt K (p :: ρ) (upd H p o) α a vs := by
  rcases w with w | w
  · exact .inl (w.rho h)
  · exact .inr w
theorem LstAt.rho {K : PySem.W.Frag} {ρ α : List Addr} {H : Hp} {p a : Addr} {o : HO} {vs : List V} (w : LstAt K ρ H α a vs) (h : H p = none) : LstAt K (p :: ρ) (upd H p o) α a vs := by
  rcases w with w | w
  · exact .inl (w.rho h)
  · exact .inr w
mutual
theorem RD.rho {G : Gm} {ρ α : List Addr} {H : Hp} {p : Addr} {o : HO} (h : H p = none) : ∀ (d : D) (v : V), RD G ρ H α d v → RD G (p :: ρ) (upd H p o) α d v
  | .non, v, r => r
  | .bl _, v, r => r
  | .int _, v, r => r
  | .str _, v, r => r
  | .tup xs, v, r => by
    obtain ⟨a, vs, e, t, rs⟩ := r
    exact ⟨a, vs, e, t.rho h, RDs.rho h xs vs rs⟩
  | .lst xs, v, r => by
    obtain ⟨a, vs, e, t, rs⟩ := r
    exact ⟨a, vs, e, t.rho h, RDs.rho h xs vs rs⟩
  | .ref k, v, r => r
  | .dic0, v, r => by
    obtain ⟨a, e, t⟩ := r
    exact ⟨a, e, t.rho h⟩
  | .exc c d, v, r => by
    obtain ⟨a, dx, dv, e, na, ra, ha, nd, rd, hd, r⟩ := r
    have n1 : a ≠ p := ne_of_none ha h
    have n2 : dx ≠ p := ne_of_none hd h
    exact ⟨a, dx, dv, e, na, by simp [n1, ra], by rw [upd_ne n1]; exact ha, nd, by simp [n2, rd], by rw [upd_ne n2]; exact hd, RD.rho h d dv r⟩
theorem RDs.rho {G : Gm} {ρ α : List Addr} {H : Hp} {p : Addr} {o : HO} (h : H p = none) : ∀ (ds : List D) (vs : List V), RDs G ρ H α ds vs → RDs G (p :: ρ) (upd H p o) α ds vs
  | [], vs, r => r
  | d :: ds, vs, r => by
    obtain ⟨v, vs', e, r1, rs⟩ := r
    exact ⟨v, vs', e, RD.rho h d v r1, RDs.rho h ds vs' rs⟩
end
/-- an iterator that yields the items while stay holds, and what it leans on is there -/
def Gives (G : Gm) (J : It) (xs : List D) (stay : Mem → Prop) (ks : List D) (vs : List V) : Prop :=
  ∃ (Gd : Hp → Prop) (Y : Nat → Hp → V → Hp → Prop), Walk J xs.length Gd Y ∧ (∀ ρ H α M, RDs G ρ H α ks vs → RM G ρ H α M → stay M → Gd H) ∧
    (∀ ρ i H x H' α M, RDs G ρ H α ks vs → RM G ρ H α M → stay M → i < xs.length → Y i H x H' → ∃ d, xs[i]? = some d ∧ Nx [] α H α H' ∧ RD G ρ H' α d x ∧ RM G ρ H' α M)
def upi (G : Gm) (W : WX) (t : Dst → Mem → IK → XD → Prop) : TI := fun σ H R => ∃ ρ δ α M Q' X', RS G ρ H α δ σ ∧ RM G ρ H α M ∧ t δ M Q' X' ∧
  (∀ xs stay M', Q' xs stay M' → ∀ J H' α' ks vs, Nx [] α H α' H' → RM G ρ H' α' M' → RDs G ρ H' α' ks vs → Gives G J xs stay ks vs → R J H') ∧ (∀ c d M', X' c d M' → wx G W ρ α H σ c d M')
abbrev PIU (X : Cx) (cad : Cad) (W : WX) (tg e : Expr) (t : Dst → Mem → IK → XD → Prop) : Prop := PI X tg e (upi (gx X cad) W t)
theorem PImono {X : Cx} {tg e : Expr} {t t' : TI} (h : PI X tg e t) (f : ∀ σ H Q, t' σ H Q → t σ H Q) : PI X tg e t' := ⟨fun pins s σ H Q I q => h.run pins s σ H Q I (f _ _ _ q)⟩
/-- a list or a tuple walked -/
def iSeq (K : PySem.W.Frag) (tl : TE) : TI := fun σ H R => tl σ H fun x H1 => ∃ a, x = .ref a ∧ (((∃ xs, SqL K H1 a xs) ∧ R (Itl K a) H1) ∨ ((∃ xs, SqT K H1 a xs) ∧ R (Itt K a) H1))
theorem pi_seq {tg l : Expr} {tl : TE} (hl : PE X l tl) : PI X tg l (iSeq X.K tl) := by
  refine ⟨fun pins s σ H R I h => ?_⟩
  refine thn (hl.run pins s σ H _ I h) fun v s1 ⟨x, H1, I1, r1, q1⟩ => ?_
  obtain ⟨a, e, q1⟩ := q1
  subst e
  cases r1
  rcases q1 with ⟨⟨xs, hq⟩, q⟩ | ⟨⟨xs, hq⟩, q⟩
  · obtain ⟨its, rv, p, hz⟩ := I1.list hq
    refine wpAny_pyIter_list p.isList ?_
    refine ⟨s1.heap.objs.size, [s1.heap.objs.size], _, _, H1, rfl, I1.kept (t' := s1.toks) fun b o e => Heap.get?_push_of_some _ e, turn_list a _, ⟨_, Heap.get?_push_size _ rfl, rfl, rfl⟩, fun b hb => ?_, q⟩
    have e : b = s1.heap.objs.size := by simpa using hb
    subst e
    exact I1.fpOk (Nat.le_refl _) (I1.hok.fresh (Nat.le_refl _))
  · obtain ⟨its, rv, p, hz⟩ := I1.tuple hq
    refine wpAny_pyIter_tuple (show s1.heap.IsTuple a its.toArray from p) ?_
    refine ⟨s1.heap.objs.size, [s1.heap.objs.size], _, _, H1, rfl, I1.kept (t' := s1.toks) fun b o e => Heap.get?_push_of_some _ e, turn_tuple a _, ⟨_, Heap.get?_push_size _ rfl, rfl, rfl⟩, fun b hb => ?_, q⟩
    have e : b = s1.heap.objs.size := by simpa using hb
    subst e
    exact I1.fpOk (Nat.le_refl _) (I1.hok.fresh (Nat.le_refl _))
/-- the items of a datum at any later time -/
theorem seq_at {G : Gm} {ρ α : List Addr} {H : Hp} {M : Mem} (rm : RM G ρ H α M) {d : D} {a : Addr} {xs : List D} (r : RD G ρ H α d (.ref a)) (e : seqD M d = some xs) :
    (∃ vs, SqL G.K H a vs ∧ RDs G ρ H α xs vs ∧ (∀ ys, d ≠ .tup ys)) ∨ (∃ vs, SqT G.K H a vs ∧ RDs G ρ H α xs vs ∧ ∃ ys, d = .tup ys) := by
  cases d with
  | tup ys => obtain ⟨b, vs, e1, t, rs⟩ := r; cases e; cases e1; exact .inr ⟨vs, t.sqt, rs, _, rfl⟩
  | lst ys => obtain ⟨b, vs, e1, t, rs⟩ := r; cases e; cases e1; exact .inl ⟨vs, t.sql, rs, fun _ z => by cases z⟩
  | ref n =>
    obtain ⟨b, e1, ha⟩ := r
    cases e1
    simp only [seqD] at e
    split at e <;> try contradiction
    rename_i ys hm
    cases e
    obtain ⟨vs, h1, h2⟩ := rm.get ha hm
    exact .inl ⟨vs, SqL.of h1, h2, fun _ z => by cases z⟩
  | _ => cases e
theorem gives_seq {G : Gm} {d : D} {a : Addr} {xs : List D} : ((∀ ys, d ≠ .tup ys) → Gives G (Itl G.K a) xs (stayD d xs) [d] [.ref a]) ∧ ((∃ ys, d = .tup ys) → Gives G (Itt G.K a) xs (stayD d xs) [d] [.ref a]) := by
  constructor
  · intro hd
    refine ⟨fun H => ∃ vs, SqL G.K H a vs ∧ vs.length = xs.length, fun i H x H' => H' = H ∧ ∃ vs, SqL G.K H a vs ∧ vs.length = xs.length ∧ ∀ us, SqL G.K H a us → us[i]? = some x, ⟨fun i H hi ⟨vs, h1, h2⟩ => ?_, fun H ⟨vs, h1, h2⟩ => ⟨vs, h1, by omega⟩, fun i H x H' hi ⟨vs, h1, h2⟩ y => ⟨y.1, vs, h1, h2, y.2⟩⟩, fun ρ H α M r rm st => ?_, fun ρ i H x H' α M r rm st hi ⟨e, vs, h1, h2, h3⟩ => ?_⟩
    · exact ⟨vs, vs[i]'(by omega), h1, List.getElem?_eq_getElem _⟩
    · obtain ⟨v, rfl', r1⟩ := r.one
      cases rfl'
      rcases seq_at rm r1 st with ⟨vs, h1, h2, _⟩ | ⟨_, _, _, ys, e⟩
      · exact ⟨vs, h1, h2.length.symm⟩
      · exact absurd e (hd ys)
    · subst e
      obtain ⟨v, rfl', r1⟩ := r.one
      cases rfl'
      rcases seq_at rm r1 st with ⟨us, k1, k2, _⟩ | ⟨_, _, _, ys, e⟩
      · obtain ⟨e, h5, h6⟩ := k2.get' (h3 us k1)
        exact ⟨e, h5, Nx.refl .., h6, rm⟩
      · exact absurd e (hd ys)
  · rintro ⟨ys, rfl⟩
    refine ⟨fun H => ∃ vs, SqT G.K H a vs ∧ vs.length = xs.length, fun i H x H' => H' = H ∧ ∃ vs, SqT G.K H a vs ∧ vs.length = xs.length ∧ ∀ us, SqT G.K H a us → us[i]? = some x, ⟨fun i H hi ⟨vs, h1, h2⟩ => ?_, fun H ⟨vs, h1, h2⟩ => ⟨vs, h1, by omega⟩, fun i H x H' hi ⟨vs, h1, h2⟩ y => ⟨y.1, vs, h1, h2, y.2⟩⟩, fun ρ H α M r rm st => ?_, fun ρ i H x H' α M r rm st hi ⟨e, vs, h1, h2, h3⟩ => ?_⟩
    · exact ⟨vs, vs[i]'(by omega), h1, List.getElem?_eq_getElem _⟩
    · obtain ⟨v, rfl', r1⟩ := r.one
      cases rfl'
      rcases seq_at rm r1 st with ⟨vs, h1, h2, h3⟩ | ⟨vs, h1, h2, _⟩
      · exact absurd rfl (h3 ys)
      · exact ⟨vs, h1, h2.length.symm⟩
    · subst e
      obtain ⟨v, rfl', r1⟩ := r.one
      cases rfl'
      rcases seq_at rm r1 st with ⟨us, k1, k2, k3⟩ | ⟨us, k1, k2, _⟩
      · exact absurd rfl (k3 ys)
      · obtain ⟨e, h5, h6⟩ := k2.get' (h3 us k1)
        exact ⟨e, h5, Nx.refl .., h6, rm⟩
theorem i_seq {Γ : Tab} {tg e : Expr} {e' : E} (h : PEU X cad W e (wpE Γ e')) : PIU X cad W tg e (wpI Γ (.seq e')) := by
  refine PImono (pi_seq h) fun σ H R ⟨ρ, δ, α, M, Q', X', rs, rm, t, hq, hx⟩ => ?_
  simp only [wpI] at t
  refine ⟨ρ, δ, α, M, _, _, rs, rm, t, fun x M1 q v H1 α1 n1 r1 m1 => ?_, hx⟩
  obtain ⟨xs, e, q'⟩ := q.inv
  obtain ⟨a, vs, rfl, sq, rs1⟩ := seq_of m1 r1 e
  refine ⟨a, rfl, ?_⟩
  by_cases hd : ∃ ys, x = .tup ys
  · have hg := (gives_seq (G := gx X cad) (d := x) (a := a) (xs := xs)).2 hd
    refine .inr ⟨?_, hq _ _ _ q' _ _ _ [x] [.ref a] n1 m1 (RDs.cons r1 .nil) hg⟩
    rcases seq_at m1 r1 e with ⟨us, k1, k2, k3⟩ | ⟨us, k1, k2, _⟩
    · obtain ⟨ys, e2⟩ := hd; exact absurd e2 (k3 ys)
    · exact ⟨us, k1⟩
  · have hg := (gives_seq (G := gx X cad) (d := x) (a := a) (xs := xs)).1 fun ys z => hd ⟨ys, z⟩
    refine .inl ⟨?_, hq _ _ _ q' _ _ _ [x] [.ref a] n1 m1 (RDs.cons r1 .nil) hg⟩
    rcases seq_at m1 r1 e with ⟨us, k1, k2, k3⟩ | ⟨us, k1, k2, z⟩
    · exact ⟨us, k1⟩
    · exact absurd z hd
theorem rngL_get {lo : Int} {n i : Nat} (h : i < n) : (rngL lo n)[i]? = some (.int (lo + (i : Nat))) := by
  unfold rngL
  rw [List.getElem?_map, List.getElem?_range h]; rfl
theorem rngL_length {lo : Int} {n : Nat} : (rngL lo n).length = n := by unfold rngL; rw [List.length_map, List.length_range]
theorem gives_rng {G : Gm} {lo : Int} {n : Nat} : Gives G (Itr lo n) (rngL lo n) (fun _ => True) [] [] := by
  refine ⟨fun _ => True, YFn fun i => .int (lo + i), by rw [rngL_length]; exact walk_range, fun _ _ _ _ _ _ _ => trivial, fun ρ i H x H' α M r rm _ hi ⟨e1, e2⟩ => ?_⟩
  rw [rngL_length] at hi
  subst e1 e2
  exact ⟨_, rngL_get hi, Nx.refl .., rfl, rm⟩
theorem i_rng1 {Γ : Tab} {tg a : Expr} {a' : E} {p : Pos} (hg : Gl X "range") (hm : X.mg "range" = none) (h : PEU X cad W a (wpE Γ a')) (hs : starEach [a] X.env = [(false, eval a X.env)]) : PIU X cad W tg (.Call (.Name "range" p) [a] [] pos) (wpI Γ (.rng1 a')) := by
  refine PImono (pi_range1 (p := p) (pos := pos) hg hm (pa_cons h pa_nil hs) hs) fun σ H R ⟨ρ, δ, α, M, Q', X', rs, rm, t, hq, hx⟩ => ?_
  simp only [wpI] at t
  refine ⟨ρ, δ, α, M, _, _, rs, rm, t, fun x M1 q v H1 α1 n1 r1 m1 => ?_, hx⟩
  obtain ⟨j, rfl, q'⟩ := q.inv
  cases r1
  exact ⟨j, rfl, q'.1.1, q'.1.2, hq _ _ _ q'.2 _ _ _ [] [] n1 m1 .nil gives_rng⟩
theorem i_rng2 {Γ : Tab} {tg a b : Expr} {a' b' : E} {p : Pos} (hg : Gl X "range") (hm : X.mg "range" = none) (h : PEU X cad W a (wpE Γ a')) (h2 : PEU X cad W b (wpE Γ b')) (hs : starEach [a, b] X.env = [(false, eval a X.env), (false, eval b X.env)]) (hs2 : starEach [b] X.env = [(false, eval b X.env)]) :
    PIU X cad W tg (.Call (.Name "range" p) [a, b] [] pos) (wpI Γ (.rng2 a' b')) := by
  refine PImono (pi_range2 (p := p) (pos := pos) hg hm (pa_cons h (pa_cons h2 pa_nil hs2) (by rw [hs, hs2])) hs hs2) fun σ H R ⟨ρ, δ, α, M, Q', X', rs, rm, t, hq, hx⟩ => ?_
  simp only [wpI] at t
  refine ⟨ρ, δ, α, M, _, _, rs, rm, t, fun x M1 q v H1 α1 n1 r1 m1 => ?_, hx⟩
  refine ⟨ρ, δ, α1, M1, _, _, rs.nx n1, m1, q, fun y M2 q2 u H2 α2 n2 r2 m2 => ?_, fun c d M' x => (hx c d M' x).nx n1⟩
  obtain ⟨i, rfl, q3⟩ := q2.inv
  obtain ⟨j, rfl, q4⟩ := q3.inv
  cases r1; cases r2
  exact ⟨i, j, rfl, ⟨q4.1.1, q4.1.2, q4.2.1.1, q4.2.1.2⟩, hq _ _ _ q4.2.2 _ _ _ [] [] (n1.trans n2) m2 .nil gives_rng⟩
end
end AA
/-! AA5e: enumerate and zip walked. -/
namespace AA
open PySem PySem.Spec L2
open PyProof.Rows hiding St

/-! ### enumerate of a tuple -/
abbrev tupIt (q : Addr) : Obj := { cls := .type "tuple_iterator", data := .fields #[.ref q, .int 0 0] }
abbrev enumOver (k : Addr) : Obj := { cls := .type "enumerate", data := .fields #[.none, .bool false, .ref k, rawInt 0, .none, .none] }
set_option maxHeartbeats 1000000 in
theorem newEnumT (q : Addr) (xs : Array Value) : Meets (Builtin.«enumerate.__new__» ⟨[.type "enumerate", .ref q], []⟩) (fun _ R s => s.heap.IsTuple q xs ∧
    R (.ok (.ret (.ref (s.heap.push (tupIt q)).objs.size))) { s with heap := (s.heap.push (tupIt q)).push (enumOver s.heap.objs.size) }) :=
  .of_wp fun P v A R s h => by
    obtain ⟨hp, gs, dr, tk, os⟩ := s
    obtain ⟨hT, h⟩ := h
    have hsub := sub_enumerate
    obtain ⟨o, ho, hc, n, hd⟩ := id hT
    wp_walk using AutoSeq1.wpAny_loadPart' ho
    refine wpAny_stack_any fun st => wpAny_pure ?_
    split
    · rename_i c _ _ _ _ _
      cases (c == Value.type "enumerate")
      · wp_walk using AutoSeq1.wpAny_loadPart' ho, wpAny_pyIter_tuple hT
        exact ⟨_, rfl, h⟩
      · wp_walk using AutoSeq1.wpAny_loadPart' ho, wpAny_pyIter_tuple hT
        exact ⟨_, rfl, h⟩
    · wp_walk using AutoSeq1.wpAny_loadPart' ho, wpAny_pyIter_tuple hT
      exact ⟨_, rfl, h⟩
section
variable {P : Program} {v : World} {A : Around} {E : Value → Shared → Prop} {s : Shared}
theorem callEnumT {q : Addr} {xs : Array Value} {Q : Value → Shared → Prop} (hT : s.heap.IsTuple q xs)
    (h : ∀ h2, IsEnum h2 (s.heap.objs.size + 1) s.heap.objs.size 0 .none → h2.IsTupleIter s.heap.objs.size q 0 → (∀ b o, s.heap.get? b = some o → h2.get? b = some o) → Q (.ref (s.heap.objs.size + 1)) { s with heap := h2 }) :
    wpAny (model P v) A (call (.type "enumerate") [.ref q]) Q E s := by
  refine callType_new F.called_enumerate (by decide) (F.typeCall_enumerate_1 _) (F.newCall_enumerate_1 _) (fun ob => F.args_object_init_2 ob _) F.entry_enumerate_new (newEnumT q xs) ⟨hT, ?_⟩
  have sz : (s.heap.push (tupIt q)).objs.size = s.heap.objs.size + 1 := Heap.size_push ..
  show _ ∧ _
  rw [sz]
  have he : IsEnum ((s.heap.push (tupIt q)).push (enumOver s.heap.objs.size)) (s.heap.objs.size + 1) s.heap.objs.size 0 .none := by
    have z := Heap.get?_push_size (s.heap.push (tupIt q)) (o := enumOver s.heap.objs.size) rfl
    rw [sz] at z
    exact z
  exact ⟨⟨_, he, rfl⟩, h _ he ⟨_, Heap.get?_push_of_some _ (Heap.get?_push_size _ rfl), rfl, rfl⟩ fun b o x => Heap.get?_push_of_some _ (Heap.get?_push_of_some _ x)⟩
end
/-- the tuple at a, each item in a new pair -/
def IteT (K : PySem.W.Frag) (a : Addr) : It :=
  ⟨fun i H => ∃ (xs : List V) (x : V), SqT K H a xs ∧ xs[i]? = some x, fun i H v H' => ∃ T x, v = .ref T ∧ H T = none ∧ H' = upd H T (.tup [.int (i : Nat), x]) ∧ ∀ xs, SqT K H a xs → xs[i]? = some x, fun i H => ∃ xs : List V, SqT K H a xs ∧ xs.length = i⟩
theorem turnEnumT {P : Program} {w : World} {K : PySem.W.Frag} {elts : List Expr} {kk : Nat} {tpos : Pos} (a e it : Addr) :
    Turn P w K (.Tuple elts kk tpos) (IteT K a) [e, it] e (fun i h => (∃ old, IsEnum h e it ((i : Nat) : Int) old) ∧ h.IsTupleIter it a i ∧ e ≠ it) where
  mem := by simp
  obj := fun i h st b hb => by
    obtain ⟨⟨old, he⟩, ⟨o, ho, hc, hd⟩, _⟩ := st
    rcases (show b = e ∨ b = it by simpa using hb) with rfl | rfl
    · exact ⟨_, he, fun v q => nomatch q⟩
    · exact ⟨o, ho, fun v q => by rw [hd] at q; cases q⟩
  keep := fun i h h' st k => let ⟨⟨old, he⟩, hi, hne⟩ := st; ⟨⟨old, k e (by simp) _ he⟩, hi.at fun o q => k it (by simp) o q, hne⟩
  item := by
    intro X hP hw hK hc i pins s σ H E I hf st hg
    subst hP hw hK
    obtain ⟨⟨old, he⟩, hit, hne⟩ := st
    obtain ⟨xs, x, hq, hx⟩ := hg
    obtain ⟨its, rv, p, hz⟩ := I.tuple hq
    obtain ⟨u, hu, ru⟩ := rv.get hx
    have hia : a ≠ it := by
      rintro rfl
      obtain ⟨o1, g1, c1, _⟩ := id p
      obtain ⟨o2, g2, c2, _⟩ := id hit
      rw [g1] at g2; cases g2
      rw [c1] at c2
      exact absurd c2 (by decide)
    have hea : e ≠ a := by
      rintro rfl
      obtain ⟨o1, g1, c1, _⟩ := id p
      have g2 : s.heap.get? e = some _ := he
      rw [g1] at g2; cases g2
      exact absurd (show Value.type "enumerate" = Value.type "tuple" from c1) (by decide)
    have hlt : i < its.toArray.size := by
      have z := (List.getElem?_eq_some_iff.mp hu).1
      simpa using z
    have hel : e < s.heap.objs.size := Heap.lt_size he
    have hil : it < s.heap.objs.size := by obtain ⟨_, q, _⟩ := hit; exact Heap.lt_size q
    refine wpAny_pyNext_enum_itemD (Draws.tuple (A := X.A.in1) (by exact I.ok.hd hc) it a hia its.toArray) he ⟨hit, show s.heap.IsTuple a its.toArray from p⟩ hlt hne (by simp [hne, hea]) fun y h1 tk hy ho hit1 hT hsz hk => ?_
    have ey : y = u := by
      have z : its[i]? = some y := by simpa using hy
      rw [hu] at z; cases z; rfl
    subst ey
    refine ⟨_, rfl, wpAny_letOwnedTupleGo_enum (s := { s with heap := h1, toks := tk + 1 }) ho fun h2 he2 sb => ?_⟩
    have hT2 : h2.get? s.heap.objs.size = some { cls := .type "tuple", data := .seq #[.int i tk, y] } := (sb.2 _ (Nat.ne_of_gt hel)).trans hT
    have new : ObjOk X.prog X.w (upd H s.heap.objs.size (.tup [.int (i : Nat), x])) h2 s.heap.objs.size (.tup [.int (i : Nat), x]) :=
      ⟨by show 2 ≤ sizeLine; decide, [.int i tk, y], .cons ⟨_, rfl⟩ (.cons ru .nil), ⟨_, hT2, rfl, _, rfl⟩⟩
    have I1 : Inv X pins σ (upd H s.heap.objs.size (.tup [.int (i : Nat), x])) { s with heap := h2, toks := tk + 1 } :=
      I.turnedNew (ch := [e, it]) (fun b ob hb q => (sb.2 b (fun z => hb (by simp [z]))).trans (hk b ob (fun z => hb (by simp [z])) (fun z => hb (by simp [z])) q)) hf (Nat.le_refl _) new
    refine ⟨.ref s.heap.objs.size, _, I1, rfl, ⟨_, x, rfl, I.hok.fresh (Nat.le_refl _), rfl, fun ys hy2 => by rw [I.tuple_inj hy2 hq]; exact hx⟩, ⟨⟨y, ?_⟩, hit1.1.at fun o q => (sb.2 it (Ne.symm hne)).trans q, hne⟩, fun b hb => ?_⟩
    · rw [show ((i + 1 : Nat) : Int) = (i : Int) + 1 by omega]
      exact he2
    · have hb2 : b < s.heap.objs.size := by
        rcases (show b = e ∨ b = it by simpa using hb) with rfl | rfl
        · exact hel
        · exact hil
      rw [upd_ne (Nat.ne_of_lt hb2)]
      exact (hf b hb).1
  done := by
    intro X hP hw hK hc i pins s σ H E I hf st hg
    subst hP hw hK
    obtain ⟨⟨old, he⟩, hit, hne⟩ := st
    obtain ⟨xs, hq, hx⟩ := hg
    obtain ⟨its, rv, p, hz⟩ := I.tuple hq
    have hia : a ≠ it := by
      rintro rfl
      obtain ⟨o1, g1, c1, _⟩ := id p
      obtain ⟨o2, g2, c2, _⟩ := id hit
      rw [g1] at g2; cases g2
      rw [c1] at c2
      exact absurd c2 (by decide)
    obtain ⟨f0, f1, f2, f3, f4, f5⟩ := hf it (by simp)
    have hl := rv.length
    have ei : i = its.toArray.size := by simp; omega
    exact wpAny_pyNext_enum_endD (Draws.tuple (A := X.A.in1) (by exact I.ok.hd hc) it a hia its.toArray) he (by rw [← ei]; exact ⟨hit, show s.heap.IsTuple a its.toArray from p⟩) fun h' eb => ⟨rfl, I.turned (t' := s.toks) (fun b o hb q => eb b o hb q) f0 f1 f3 f4 f5⟩
  self := fun A i s Q E st h => let ⟨⟨_, he⟩, _⟩ := st; wpAny_pyIter_enum he h
theorem boot_enum : bootBuiltins "enumerate" = some (.type "enumerate") := by decide +kernel
def iEnumA (K : PySem.W.Frag) (ta : TA) : TI := fun σ H R => ta σ H fun vs H1 => ∃ a, vs = [.ref a] ∧ ((∃ xs, SqL K H1 a xs ∧ R (Ite K a) H1) ∨ (∃ xs, SqT K H1 a xs ∧ R (IteT K a) H1))
theorem pi_enumA {X : Cx} {e : Expr} {ta : TA} {p pos tpos : Pos} {elts : List Expr} {kk : Nat} (hg : Gl X "enumerate") (hm : X.mg "enumerate" = none) (ha : PA X [e] ta) (hs : starEach [e] X.env = [(false, eval e X.env)]) :
    PI X (.Tuple elts kk tpos) (.Call (.Name "enumerate" p) [e] [] pos) (iEnumA X.K ta) := by
  refine ⟨fun pins s σ H R I h => ?_⟩
  refine Call_ (ld_blt I hg hm boot_enum (PyProof.Rows.callWith_type1 (thn (ha.run pos pins s σ H _ I h) fun us s1 ⟨vs, H1, I1, r1, q1⟩ => ?_) hs rfl))
  obtain ⟨a, ex, q1⟩ := q1
  subst ex
  have two : ∀ b, b ∈ [s1.heap.objs.size + 1, s1.heap.objs.size] → FpOk X pins H1 b := fun b hb => by
    have le : s1.heap.objs.size ≤ b := by
      rcases (show b = s1.heap.objs.size + 1 ∨ b = s1.heap.objs.size by simpa using hb) with z | z
      · rw [z]; exact Nat.le_succ _
      · rw [z]; exact Nat.le_refl _
    exact I1.fpOk le (I1.hok.fresh le)
  cases r1 with
  | cons r rr =>
    cases rr
    cases r
    rcases q1 with ⟨xs, hq, q⟩ | ⟨xs, hq, q⟩
    · obtain ⟨its, rv, pl, hz⟩ := I1.list hq
      refine call_enumerate_list pl.isList fun h2 he hit hsz hk => wpAny_pyIter_enum he ?_
      have I2 : Inv X pins σ H1 { s1 with heap := h2 } := I1.kept (t' := s1.toks) hk
      exact ⟨_, _, _, _, H1, rfl, I2, turn_enum a (s1.heap.objs.size + 1) s1.heap.objs.size, ⟨⟨.none, he⟩, hit, Nat.succ_ne_self _⟩, two, q⟩
    · obtain ⟨its, rv, pl, hz⟩ := I1.tuple hq
      refine callEnumT (show s1.heap.IsTuple a its.toArray from pl) fun h2 he hit hk => wpAny_pyIter_enum he ?_
      have I2 : Inv X pins σ H1 { s1 with heap := h2 } := I1.kept (t' := s1.toks) hk
      exact ⟨_, _, _, _, H1, rfl, I2, turnEnumT a (s1.heap.objs.size + 1) s1.heap.objs.size, ⟨⟨.none, he⟩, hit, Nat.succ_ne_self _⟩, two, q⟩

/-! ### what they give -/
theorem enumL_length {xs : List D} : (enumL xs).length = xs.length := by unfold enumL; simp
theorem enumL_get {xs : List D} {i : Nat} {d : D} (h : xs[i]? = some d) : (enumL xs)[i]? = some (.tup [.int (i : Nat), d]) := by
  unfold enumL
  rw [List.getElem?_map, List.getElem?_zipIdx, h]
  simp
theorem zipL_length {xs ys : List D} : (zipL xs ys).length = min xs.length ys.length := by unfold zipL; simp
theorem zipL_get {xs ys : List D} {i : Nat} {d e : D} (h : xs[i]? = some d) (h2 : ys[i]? = some e) : (zipL xs ys)[i]? = some (.tup [d, e]) := by
  unfold zipL
  have z : (xs.zip ys)[i]? = some (d, e) := List.getElem?_zip_eq_some.mpr ⟨h, h2⟩
  rw [List.getElem?_map, z]
  rfl
/-- a new pair -/
theorem pair_new {G : Gm} {ρ α : List Addr} {H : Hp} {M : Mem} {T : Addr} {d e : D} {x y : V} (rm : RM G ρ H α M) (hT : H T = none) (r1 : RD G ρ H α d x) (r2 : RD G ρ H α e y) :
    Nx [] α H α (upd H T (.tup [x, y])) ∧ RD G ρ (upd H T (.tup [x, y])) α (.tup [d, e]) (.ref T) ∧ RM G ρ (upd H T (.tup [x, y])) α M := by
  have nw : Nx [] α H α (upd H T (.tup [x, y])) := Nx.new hT
  refine ⟨nw, ⟨T, [x, y], rfl, .inl ⟨?_, ?_, .inl upd_same⟩, RDs.cons (r1.nx nw) (RDs.cons (r2.nx nw) .nil)⟩, rm.new hT⟩
  · exact fun z => by obtain ⟨u, e⟩ := rm.mem z; rw [hT] at e; cases e
  · exact fun z => rm.rho _ z (.inl hT)
theorem gives_enum {G : Gm} {d : D} {a : Addr} {xs : List D} : ((∀ ys, d ≠ .tup ys) → Gives G (Ite G.K a) (enumL xs) (stayD d xs) [d] [.ref a]) ∧ ((∃ ys, d = .tup ys) → Gives G (IteT G.K a) (enumL xs) (stayD d xs) [d] [.ref a]) := by
  constructor
  · intro hd
    refine ⟨fun H => ∃ vs, SqL G.K H a vs ∧ vs.length = xs.length, fun i H v H' => ∃ T x, v = .ref T ∧ H T = none ∧ H' = upd H T (.tup [.int (i : Nat), x]) ∧ ∀ us, SqL G.K H a us → us[i]? = some x,
      ⟨fun i H hi ⟨vs, h1, h2⟩ => ?_, fun H ⟨vs, h1, h2⟩ => ⟨vs, h1, by rw [enumL_length, h2]; exact Nat.le_refl _⟩, fun i H x H' hi g y => y⟩, fun ρ H α M r rm st => ?_, fun ρ i H x H' α M r rm st hi ⟨T, x', e1, e2, e3, e4⟩ => ?_⟩
    · rw [enumL_length] at hi
      exact ⟨vs, vs[i]'(by omega), h1, List.getElem?_eq_getElem _⟩
    · obtain ⟨v, e, r1⟩ := r.one
      cases e
      rcases seq_at rm r1 st with ⟨vs, h1, h2, _⟩ | ⟨_, _, _, ys, e⟩
      · exact ⟨vs, h1, h2.length.symm⟩
      · exact absurd e (hd ys)
    · obtain ⟨v, e, r1⟩ := r.one
      cases e
      rcases seq_at rm r1 st with ⟨us, k1, k2, _⟩ | ⟨_, _, _, ys, e⟩
      · obtain ⟨d', h5, h6⟩ := k2.get' (e4 us k1)
        subst e1 e3
        obtain ⟨p1, p2, p3⟩ := pair_new (d := .int (i : Nat)) (x := .int (i : Nat)) rm e2 rfl h6
        exact ⟨_, enumL_get h5, p1, p2, p3⟩
      · exact absurd e (hd ys)
  · rintro ⟨ys, rfl⟩
    refine ⟨fun H => ∃ vs, SqT G.K H a vs ∧ vs.length = xs.length, fun i H v H' => ∃ T x, v = .ref T ∧ H T = none ∧ H' = upd H T (.tup [.int (i : Nat), x]) ∧ ∀ us, SqT G.K H a us → us[i]? = some x,
      ⟨fun i H hi ⟨vs, h1, h2⟩ => ?_, fun H ⟨vs, h1, h2⟩ => ⟨vs, h1, by rw [enumL_length, h2]⟩, fun i H x H' hi g y => y⟩, fun ρ H α M r rm st => ?_, fun ρ i H x H' α M r rm st hi ⟨T, x', e1, e2, e3, e4⟩ => ?_⟩
    · rw [enumL_length] at hi
      exact ⟨vs, vs[i]'(by omega), h1, List.getElem?_eq_getElem _⟩
    · obtain ⟨v, e, r1⟩ := r.one
      cases e
      rcases seq_at rm r1 st with ⟨vs, h1, h2, h3⟩ | ⟨vs, h1, h2, _⟩
      · exact absurd rfl (h3 ys)
      · exact ⟨vs, h1, h2.length.symm⟩
    · obtain ⟨v, e, r1⟩ := r.one
      cases e
      rcases seq_at rm r1 st with ⟨us, k1, k2, k3⟩ | ⟨us, k1, k2, _⟩
      · exact absurd rfl (k3 ys)
      · obtain ⟨d', h5, h6⟩ := k2.get' (e4 us k1)
        subst e1 e3
        obtain ⟨p1, p2, p3⟩ := pair_new (d := .int (i : Nat)) (x := .int (i : Nat)) rm e2 rfl h6
        exact ⟨_, enumL_get h5, p1, p2, p3⟩
section
variable {X : Cx} {cad : Cad} {W : WX} {pos : Pos}
theorem i_enum {Γ : Tab} {tg a : Expr} {a' : E} {p : Pos} (ht : ∃ elts k q, tg = .Tuple elts k q) (hg : Gl X "enumerate") (hm : X.mg "enumerate" = none) (h : PEU X cad W a (wpE Γ a')) (hs : starEach [a] X.env = [(false, eval a X.env)]) :
    PIU X cad W tg (.Call (.Name "enumerate" p) [a] [] pos) (wpI Γ (.enum a')) := by
  obtain ⟨elts, k, q, rfl⟩ := ht
  refine PImono (pi_enumA (p := p) (pos := pos) hg hm (pa_cons h pa_nil hs) hs) fun σ H R ⟨ρ, δ, α, M, Q', X', rs, rm, t, hq, hx⟩ => ?_
  simp only [wpI] at t
  refine ⟨ρ, δ, α, M, _, _, rs, rm, t, fun x M1 q v H1 α1 n1 r1 m1 => ?_, hx⟩
  obtain ⟨xs, e, q'⟩ := q.inv
  obtain ⟨b, vs, rfl, sq, rs1⟩ := seq_of m1 r1 e
  refine ⟨b, rfl, ?_⟩
  rcases seq_at m1 r1 e with ⟨us, k1, k2, k3⟩ | ⟨us, k1, k2, k3⟩
  · exact .inl ⟨us, k1, hq _ _ _ q' _ _ _ [x] [.ref b] n1 m1 (RDs.cons r1 .nil) ((gives_enum (G := gx X cad) (d := x) (a := b) (xs := xs)).1 k3)⟩
  · exact .inr ⟨us, k1, hq _ _ _ q' _ _ _ [x] [.ref b] n1 m1 (RDs.cons r1 .nil) ((gives_enum (G := gx X cad) (d := x) (a := b) (xs := xs)).2 k3)⟩
end
theorem gives_zipL {G : Gm} {d e : D} {a b : Addr} {xs ys : List D} (hd : ∀ zs, d ≠ .tup zs) (he : ∀ zs, e ≠ .tup zs) : Gives G (Itz G.K a b) (zipL xs ys) (fun M => stayD d xs M ∧ stayD e ys M) [d, e] [.ref a, .ref b] := by
  refine ⟨fun H => ∃ vs us, SqL G.K H a vs ∧ SqL G.K H b us ∧ vs.length = xs.length ∧ us.length = ys.length, fun i H v H' => ∃ T x y, v = .ref T ∧ H T = none ∧ H' = upd H T (.tup [x, y]) ∧ (∀ us, SqL G.K H a us → us[i]? = some x) ∧ ∀ us, SqL G.K H b us → us[i]? = some y,
    ⟨fun i H hi ⟨vs, us, h1, h2, h3, h4⟩ => ?_, fun H ⟨vs, us, h1, h2, h3, h4⟩ => ⟨vs, us, h1, h2, by rw [zipL_length, h3, h4]; omega⟩, fun i H x H' hi g y => y⟩, fun ρ H α M r rm st => ?_, fun ρ i H x H' α M r rm st hi ⟨T, x', y', e1, e2, e3, e4, e5⟩ => ?_⟩
  · rw [zipL_length] at hi
    exact ⟨vs, us, vs[i]'(by omega), us[i]'(by omega), h1, h2, List.getElem?_eq_getElem _, List.getElem?_eq_getElem _⟩
  · obtain ⟨v, u, ev, q1, q2⟩ := r.two
    cases ev
    · obtain ⟨us, us1, us2⟩ : ∃ us, SqL G.K H a us ∧ RDs G ρ H α xs us := by
        rcases seq_at rm q1 st.1 with ⟨w, w1, w2, w3⟩ | ⟨w, w1, w2, w3⟩
        · exact ⟨w, w1, w2⟩
        · obtain ⟨zs, e0⟩ := w3; exact absurd e0 (hd zs)
      obtain ⟨ws, ws1, ws2⟩ : ∃ us, SqL G.K H b us ∧ RDs G ρ H α ys us := by
        rcases seq_at rm q2 st.2 with ⟨w, w1, w2, w3⟩ | ⟨w, w1, w2, w3⟩
        · exact ⟨w, w1, w2⟩
        · obtain ⟨zs, e0⟩ := w3; exact absurd e0 (he zs)
      exact ⟨us, ws, us1, ws1, us2.length.symm, ws2.length.symm⟩
  · obtain ⟨v, u, ev, q1, q2⟩ := r.two
    cases ev
    · obtain ⟨us, us1, us2⟩ : ∃ us, SqL G.K H a us ∧ RDs G ρ H α xs us := by
        rcases seq_at rm q1 st.1 with ⟨w, w1, w2, w3⟩ | ⟨w, w1, w2, w3⟩
        · exact ⟨w, w1, w2⟩
        · obtain ⟨zs, e0⟩ := w3; exact absurd e0 (hd zs)
      obtain ⟨ws, ws1, ws2⟩ : ∃ us, SqL G.K H b us ∧ RDs G ρ H α ys us := by
        rcases seq_at rm q2 st.2 with ⟨w, w1, w2, w3⟩ | ⟨w, w1, w2, w3⟩
        · exact ⟨w, w1, w2⟩
        · obtain ⟨zs, e0⟩ := w3; exact absurd e0 (he zs)
      obtain ⟨d', h5, h6⟩ := us2.get' (e4 us us1)
      obtain ⟨f', h7, h8⟩ := ws2.get' (e5 ws ws1)
      subst e1 e3
      obtain ⟨p1, p2, p3⟩ := pair_new (d := d') (e := f') rm e2 h6 h8
      exact ⟨_, zipL_get h5 h7, p1, p2, p3⟩
theorem gives_zipT {G : Gm} {d e : D} {a b : Addr} {xs ys : List D} (hd : ∃ zs, d = .tup zs) (he : ∃ zs, e = .tup zs) : Gives G (RZ.ItzT G.K a b) (zipL xs ys) (fun M => stayD d xs M ∧ stayD e ys M) [d, e] [.ref a, .ref b] := by
  refine ⟨fun H => ∃ vs us, SqT G.K H a vs ∧ SqT G.K H b us ∧ vs.length = xs.length ∧ us.length = ys.length, fun i H v H' => ∃ T x y, v = .ref T ∧ H T = none ∧ H' = upd H T (.tup [x, y]) ∧ (∀ us, SqT G.K H a us → us[i]? = some x) ∧ ∀ us, SqT G.K H b us → us[i]? = some y,
    ⟨fun i H hi ⟨vs, us, h1, h2, h3, h4⟩ => ?_, fun H ⟨vs, us, h1, h2, h3, h4⟩ => ⟨vs, us, h1, h2, by rw [zipL_length, h3, h4]; omega⟩, fun i H x H' hi g y => y⟩, fun ρ H α M r rm st => ?_, fun ρ i H x H' α M r rm st hi ⟨T, x', y', e1, e2, e3, e4, e5⟩ => ?_⟩
  · rw [zipL_length] at hi
    exact ⟨vs, us, vs[i]'(by omega), us[i]'(by omega), h1, h2, List.getElem?_eq_getElem _, List.getElem?_eq_getElem _⟩
  · obtain ⟨v, u, ev, q1, q2⟩ := r.two
    cases ev
    · obtain ⟨us, us1, us2⟩ : ∃ us, SqT G.K H a us ∧ RDs G ρ H α xs us := by
        rcases seq_at rm q1 st.1 with ⟨w, w1, w2, w3⟩ | ⟨w, w1, w2, w3⟩
        · obtain ⟨zs, e0⟩ := hd; exact absurd e0 (w3 zs)
        · exact ⟨w, w1, w2⟩
      obtain ⟨ws, ws1, ws2⟩ : ∃ us, SqT G.K H b us ∧ RDs G ρ H α ys us := by
        rcases seq_at rm q2 st.2 with ⟨w, w1, w2, w3⟩ | ⟨w, w1, w2, w3⟩
        · obtain ⟨zs, e0⟩ := he; exact absurd e0 (w3 zs)
        · exact ⟨w, w1, w2⟩
      exact ⟨us, ws, us1, ws1, us2.length.symm, ws2.length.symm⟩
  · obtain ⟨v, u, ev, q1, q2⟩ := r.two
    cases ev
    · obtain ⟨us, us1, us2⟩ : ∃ us, SqT G.K H a us ∧ RDs G ρ H α xs us := by
        rcases seq_at rm q1 st.1 with ⟨w, w1, w2, w3⟩ | ⟨w, w1, w2, w3⟩
        · obtain ⟨zs, e0⟩ := hd; exact absurd e0 (w3 zs)
        · exact ⟨w, w1, w2⟩
      obtain ⟨ws, ws1, ws2⟩ : ∃ us, SqT G.K H b us ∧ RDs G ρ H α ys us := by
        rcases seq_at rm q2 st.2 with ⟨w, w1, w2, w3⟩ | ⟨w, w1, w2, w3⟩
        · obtain ⟨zs, e0⟩ := he; exact absurd e0 (w3 zs)
        · exact ⟨w, w1, w2⟩
      obtain ⟨d', h5, h6⟩ := us2.get' (e4 us us1)
      obtain ⟨f', h7, h8⟩ := ws2.get' (e5 ws ws1)
      subst e1 e3
      obtain ⟨p1, p2, p3⟩ := pair_new (d := d') (e := f') rm e2 h6 h8
      exact ⟨_, zipL_get h5 h7, p1, p2, p3⟩
theorem chrsD_get {z : Str} {i c : Nat} (h : z.cps[i]? = some c) : (chrsD z)[i]? = some (.str ⟨#[c]⟩) := by
  unfold chrsD
  rw [List.getElem?_map]
  have e : z.cps.toList[i]? = some c := by simpa using h
  rw [e]; rfl
theorem gives_chr {G : Gm} {z : Str} : Gives G (Its z) (chrsD z) (fun _ => True) [] [] := by
  have l : (chrsD z).length = z.cps.size := by unfold chrsD; simp
  refine ⟨fun _ => True, fun i H v H' => H' = H ∧ ∃ c, z.cps[i]? = some c ∧ v = .str ⟨#[c]⟩, by rw [l]; exact walk_str, fun _ _ _ _ _ _ _ => trivial, fun ρ i H x H' α M r rm _ hi ⟨e1, c, e2, e3⟩ => ?_⟩
  subst e1 e3
  exact ⟨_, chrsD_get e2, Nx.refl .., rfl, rm⟩
theorem rngC_length {lo c : Int} {n : Nat} : (rngC lo c n).length = n := by unfold rngC; simp
theorem rngC_get {lo c : Int} {n i : Nat} (h : i < n) : (rngC lo c n)[i]? = some (.int (lo + (i : Nat) * c)) := by
  unfold rngC
  rw [List.getElem?_map, List.getElem?_range h]
  rfl
theorem gives_rngC {G : Gm} {lo c : Int} {n : Nat} : Gives G (Itc lo c n) (rngC lo c n) (fun _ => True) [] [] := by
  refine ⟨fun _ => True, YFn fun i => .int (lo + (i : Nat) * c), by rw [rngC_length]; exact walk_rangeC, fun _ _ _ _ _ _ _ => trivial, fun ρ i H x H' α M r rm _ hi ⟨e1, e2⟩ => ?_⟩
  rw [rngC_length] at hi
  subst e1 e2
  exact ⟨_, rngC_get hi, Nx.refl .., rfl, rm⟩
section
variable {X : Cx} {cad : Cad} {W : WX} {pos : Pos}
theorem i_chr {Γ : Tab} {tg e : Expr} {e' : E} (h : PEU X cad W e (wpE Γ e')) : PIU X cad W tg e (wpI Γ (.chr e')) := by
  refine PImono (pi_str h) fun σ H R ⟨ρ, δ, α, M, Q', X', rs, rm, t, hq, hx⟩ => ?_
  simp only [wpI] at t
  refine ⟨ρ, δ, α, M, _, _, rs, rm, t, fun x M1 q v H1 α1 n1 r1 m1 => ?_, hx⟩
  obtain ⟨z, rfl, q'⟩ := q.inv
  cases r1
  exact ⟨z, rfl, hq _ _ _ q' _ _ _ [] [] n1 m1 .nil gives_chr⟩
theorem i_rng3 {Γ : Tab} {tg a b c : Expr} {a' b' c' : E} {p : Pos} (hg : Gl X "range") (hm : X.mg "range" = none) (h : PEU X cad W a (wpE Γ a')) (h2 : PEU X cad W b (wpE Γ b')) (h3 : PEU X cad W c (wpE Γ c'))
    (hs : starEach [a, b, c] X.env = (false, eval a X.env) :: starEach [b, c] X.env) (hs2 : starEach [b, c] X.env = (false, eval b X.env) :: starEach [c] X.env) (hs3 : starEach [c] X.env = [(false, eval c X.env)]) :
    PIU X cad W tg (.Call (.Name "range" p) [a, b, c] [] pos) (wpI Γ (.rng3 a' b' c')) := by
  refine PImono (pi_range3 (p := p) (pos := pos) hg hm (pa_cons h (pa_cons h2 (pa_cons h3 pa_nil hs3) hs2) hs) hs (by rw [hs2, hs3]; rfl)) fun σ H R ⟨ρ, δ, α, M, Q', X', rs, rm, t, hq, hx⟩ => ?_
  simp only [wpI] at t
  refine ⟨ρ, δ, α, M, _, _, rs, rm, t, fun x M1 q v H1 α1 n1 r1 m1 => ?_, hx⟩
  refine ⟨ρ, δ, α1, M1, _, _, rs.nx n1, m1, q, fun y M2 q2 u H2 α2 n2 r2 m2 => ?_, fun c d M' x => (hx c d M' x).nx n1⟩
  refine ⟨ρ, δ, α2, M2, _, _, rs.nx (n1.trans n2), m2, q2, fun z M3 q3 w H3 α3 n3 r3 m3 => ?_, fun c d M' x => (hx c d M' x).nx (n1.trans n2)⟩
  obtain ⟨i, rfl, q4⟩ := q3.inv
  obtain ⟨j, rfl, q5⟩ := q4.inv
  obtain ⟨l, rfl, n, hr, q6⟩ := q5.inv
  cases r1; cases r2; cases r3
  exact ⟨i, j, l, n, rfl, hr, hq _ _ _ q6 _ _ _ [] [] ((n1.trans n2).trans n3) m3 .nil gives_rngC⟩
end
end AA
/-! AA5z: zip of a list and a tuple. -/
namespace AA
open PySem PySem.Spec L2
open PyProof.Rows hiding St
section
variable {prog : Program} {w : World} {A : Around} {E : Value → Shared → Prop} {s : Shared}
/-- a zip's own objects, its first source a list, its second a tuple -/
structure Zm (h : Heap) (z TI TO i1 i2 a b : Addr) (j k : Nat) (f0 x y : Value) : Prop where
  hz : IsZip h z TI TO f0
  ti : IsPair h TI (.ref i1) (.ref i2)
  to : IsPair h TO x y
  l : h.IsListIter i1 a j
  t : h.IsTupleIter i2 b k
/-- both sources asked, the pair filled -/
theorem zm_item {z TI TO i1 i2 a b : Addr} {j k : Nat} {xs ys : Array Value} {x y x0 y0 : Value} {Q : Option Value → Shared → Prop} (D : ZipApart z TI TO i1 i2 a b) (Z : Zm s.heap z TI TO i1 i2 a b j k .none x0 y0)
    (la : s.heap.IsList a xs) (tb : s.heap.IsTuple b ys) (hx : xs[j]? = some x) (hy : ys[k]? = some y)
    (done : ∀ g, Zm g z TI TO i1 i2 a b (j + 1) (k + 1) (rawInt s.heap.objs.size) x y → IsPair g s.heap.objs.size x y → g.objs.size = s.heap.objs.size + 1 → (∀ c o, c ∉ [z, TO, i1, i2] → s.heap.get? c = some o → g.get? c = some o) → Q (some (.ref s.heap.objs.size)) { s with heap := g }) :
    wpAny (model prog w) A (pyNext (.ref z)) Q E s := by
  obtain ⟨hz, ti, to, l, t⟩ := Z
  have ty : s.TypeIs (.ref z) "zip" := ⟨_, hz, rfl⟩
  unfold pyNext
  refine wpAny_bind (wpAny_attempt (wpAny_callSpecial?_slot (name := Str.ofString "__next__") ty F.slot_zip_next (wpAny_call_entry F.slot_zip_next ty F.entry_zip_next ?_ (F.args_zip_next_1 _))))
  refine id (show wpAny (model prog w) _ (field (.ref z) 2 >>= _) _ _ s from wpAny_bind (wpAny_field hz rfl (x := .bool false) rfl ?_))
  refine id (show wpAny (model prog w) _ (field (.ref z) 3 >>= _) _ _ s from wpAny_bind (wpAny_field hz rfl (x := .ref TI) rfl (wpAny_bind (wpAny_seqItems ti rfl ?_))))
  refine id (show wpAny (model prog w) _ (Builtin.SmallTypes.ownedTupleIsFree (.ref z) >>= _) _ _ s from wpAny_bind ?_)
  unfold Builtin.SmallTypes.ownedTupleIsFree
  refine wpAny_bind (wpAny_field hz rfl (x := .none) rfl (wpAny_pure ?_))
  simp only [if_true]
  refine wpAny_bind (wpAny_rule (wpAny_bind (wpAny_field hz rfl (x := .ref TO) rfl (wpAny_bind (wpAny_setField_rec hz (by simp) fun g1 z1 s1 => ?_)))))
  have zz1 : IsZip g1 z TI TO .ellipsis := z1
  refine wpAny_bind ?_
  simp only [List.forIn_cons, List.forIn_nil, List.zipIdx_cons, List.zipIdx_nil]
  have e1 := s1.extBut
  refine wpAny_bind (wpAny_bind (wpAny_onRaise (show wpAny (model prog w) _ (Builtin.SmallTypes.nextOf (.ref i1) >>= _) _ _ _ from wpAny_bind (wpAny_nextOf_list_item (l.extBut e1 D.i1z) (la.extBut e1 D.l1z) hx fun g2 l2 s2 => wpAny_pure ?_))))
  have e2 := s2.extBut
  have to2 : IsPair g2 TO x0 y0 := e2 _ _ D.TOi1 (e1 _ _ D.TOz to)
  refine wpAny_bind (wpAny_seqItems to2 rfl (wpAny_bind (wpAny_updateSeq_pair to2 fun g3 to3' s3 => wpAny_bind (wpAny_letGo (wpAny_pure ?_)))))
  have to3 : IsPair g3 TO x y0 := to3'
  have e3 := s3.extBut
  refine wpAny_bind (wpAny_bind (wpAny_onRaise (show wpAny (model prog w) _ (Builtin.SmallTypes.nextOf (.ref i2) >>= _) _ _ _ from wpAny_bind (PySem.wpAny_nextOf_tuple_item (((t.extBut e1 D.i2z).extBut e2 D.i12.symm).extBut e3 D.TOi2.symm)
    (((tb.extBut e1 D.l2z).extBut e2 D.l2i1).extBut e3 D.l2TO) hy fun g4 t4 s4 => wpAny_pure ?_))))
  have e4 := s4.extBut
  have to4 : IsPair g4 TO x y0 := e4 _ _ D.TOi2 to3
  refine wpAny_bind (wpAny_seqItems to4 rfl (wpAny_bind (wpAny_updateSeq_pair to4 fun g5 to5' s5 => wpAny_bind (wpAny_letGo (wpAny_pure (wpAny_pure ?_))))))
  have to5 : IsPair g5 TO x y := to5'
  have e5 := s5.extBut
  refine wpAny_bind (wpAny_seqItems to5 rfl (wpAny_bind (wpAny_newTuple ?_)))
  have size : g5.objs.size = s.heap.objs.size := by rw [s5.1, s4.1, s3.1, s2.1, s1.1]
  have hz5 : IsZip g5 z TI TO .ellipsis := e5 _ _ D.TOz.symm (e4 _ _ D.i2z.symm (e3 _ _ D.TOz.symm (e2 _ _ D.i1z.symm zz1)))
  have keep : ∀ c o, c ∉ [z, TO, i1, i2] → s.heap.get? c = some o → g5.get? c = some o := fun c o nc e => by
    simp only [List.mem_cons, List.not_mem_nil, or_false, not_or] at nc
    exact e5 _ _ nc.2.1 (e4 _ _ nc.2.2.2 (e3 _ _ nc.2.1 (e2 _ _ nc.2.2.1 (e1 _ _ nc.1 e))))
  have l5 : g5.IsListIter i1 a (j + 1) := ((l2.extBut e3 D.TOi1.symm).extBut e4 D.i12).extBut e5 D.TOi1.symm
  have t5 : g5.IsTupleIter i2 b (k + 1) := t4.extBut e5 D.TOi2.symm
  have zlt : z < g5.objs.size := Heap.lt_size hz5
  refine id (show wpAny (model prog w) _ (Builtin.SmallTypes.ownedTupleHandOut (.ref z) (.ref g5.objs.size) >>= _) _ _ _ from wpAny_bind ?_)
  unfold Builtin.SmallTypes.ownedTupleHandOut
  refine wpAny_bind (wpAny_setField_rec (show IsZip (g5.push { cls := .type "tuple", data := .seq #[x, y] }) z TI TO .ellipsis from Heap.get?_push_of_some _ hz5) (by simp) fun g6 z6 s6 => ?_)
  have zz6 : IsZip g6 z TI TO (rawInt g5.objs.size) := z6
  refine wpAny_setField_rec zz6 (by simp) fun g7 z7 s7 => ?_
  have zz7 : IsZip g7 z TI TO (rawInt g5.objs.size) := z7
  have up : ∀ c o, c ≠ z → g5.get? c = some o → g7.get? c = some o := fun c o nc e => s7.extBut _ _ nc (s6.extBut _ _ nc (Heap.get?_push_of_some _ e))
  have np : IsPair g7 g5.objs.size x y := s7.extBut _ _ (Nat.ne_of_gt zlt) (s6.extBut _ _ (Nat.ne_of_gt zlt) (Heap.get?_push_size _ rfl))
  have sz7 : g7.objs.size = g5.objs.size + 1 := by rw [s7.1, s6.1, Heap.size_push]
  rw [size] at zz7 np sz7
  refine wpAny_pure ⟨_, rfl, wpAny_pure ?_⟩
  show Q (some (.ref g5.objs.size)) _
  rw [size]
  exact done g7 ⟨zz7, up _ _ D.TIz (keep _ _ (by simp [D.TIz, D.TITO, D.TIi1, D.TIi2]) ti), up _ _ D.TOz to5, l5.at fun o e => up _ o D.i1z e, t5.at fun o e => up _ o D.i2z e⟩ np sz7 fun c o nc e => up c o (fun q => nc (by simp [q])) (keep c o nc e)
/-- one of the sources is at its end -/
theorem zm_end {z TI TO i1 i2 a b : Addr} {j k : Nat} {xs ys : Array Value} {x0 y0 : Value} {Q : Option Value → Shared → Prop} (calm : A.handled = none) (D : ZipApart z TI TO i1 i2 a b) (Z : Zm s.heap z TI TO i1 i2 a b j k .none x0 y0)
    (la : s.heap.IsList a xs) (tb : s.heap.IsTuple b ys) (he : xs[j]? = none ∨ ys[k]? = none)
    (done : ∀ g, (∀ c o, c ∉ [z, TO, i1, i2] → s.heap.get? c = some o → g.get? c = some o) → Q none { s with heap := g }) : wpAny (model prog w) A (pyNext (.ref z)) Q E s := by
  obtain ⟨hz, ti, to, l, t⟩ := Z
  have ty : s.TypeIs (.ref z) "zip" := ⟨_, hz, rfl⟩
  have fin : ∀ g e, (∀ c o, c ∉ [z, TO, i1, i2] → s.heap.get? c = some o → g.get? c = some o) → (∃ o, g.get? e = some o ∧ o.cls = .type "StopIteration") →
      wpAny (model prog w) A (do if ← isInstance (.ref e) (.type "StopIteration") then pure none else throw (.ref e)) Q E { s with heap := g } := fun g e hk ⟨o, ho, hc⟩ =>
    wpAny_bind (wpAny_isInstance (T := "StopIteration") (b := true) ⟨o, ho, hc⟩ isSubtype_stop (wpAny_pure (done _ hk)))
  unfold pyNext
  refine wpAny_bind (wpAny_attempt (wpAny_callSpecial?_slot (name := Str.ofString "__next__") ty F.slot_zip_next (wpAny_call_entry F.slot_zip_next ty F.entry_zip_next ?_ (F.args_zip_next_1 _))))
  refine id (show wpAny (model prog w) _ (field (.ref z) 2 >>= _) _ _ s from wpAny_bind (wpAny_field hz rfl (x := .bool false) rfl ?_))
  refine id (show wpAny (model prog w) _ (field (.ref z) 3 >>= _) _ _ s from wpAny_bind (wpAny_field hz rfl (x := .ref TI) rfl (wpAny_bind (wpAny_seqItems ti rfl ?_))))
  refine id (show wpAny (model prog w) _ (Builtin.SmallTypes.ownedTupleIsFree (.ref z) >>= _) _ _ s from wpAny_bind ?_)
  unfold Builtin.SmallTypes.ownedTupleIsFree
  refine wpAny_bind (wpAny_field hz rfl (x := .none) rfl (wpAny_pure ?_))
  simp only [if_true]
  refine wpAny_bind (wpAny_rule (wpAny_bind (wpAny_field hz rfl (x := .ref TO) rfl (wpAny_bind (wpAny_setField_rec hz (by simp) fun g1 z1 s1 => ?_)))))
  have zz1 : IsZip g1 z TI TO .ellipsis := z1
  refine wpAny_bind ?_
  simp only [List.forIn_cons, List.forIn_nil, List.zipIdx_cons, List.zipIdx_nil]
  have e1 := s1.extBut
  cases hx : xs[j]? with
  | none =>
    refine wpAny_bind (wpAny_bind (wpAny_onRaise (show wpAny (model prog w) _ (Builtin.SmallTypes.nextOf (.ref i1) >>= _) _ _ _ from wpAny_bind (wpAny_nextOf_list_end calm (l.extBut e1 D.i1z) (la.extBut e1 D.l1z) hx fun g2 e e2 ⟨oe, ho, hc⟩ => ?_))))
    have zz2 : IsZip g2 z TI TO .ellipsis := e2 _ _ D.i1z.symm zz1
    have ne : e ≠ z := fun q => by rw [q, zz2] at ho; cases ho; simp at hc
    refine wpAny_setField_rec zz2 (by simp) fun g3 _ s3 => fin g3 e (fun c o nc q => ?_) ⟨oe, s3.extBut _ _ ne ho, hc⟩
    simp only [List.mem_cons, List.not_mem_nil, or_false, not_or] at nc
    exact s3.extBut _ _ nc.1 (e2 _ _ nc.2.2.1 (e1 _ _ nc.1 q))
  | some x =>
    have hy : ys[k]? = none := by
      rcases he with q | q
      · rw [hx] at q; cases q
      · exact q
    refine wpAny_bind (wpAny_bind (wpAny_onRaise (show wpAny (model prog w) _ (Builtin.SmallTypes.nextOf (.ref i1) >>= _) _ _ _ from wpAny_bind (wpAny_nextOf_list_item (l.extBut e1 D.i1z) (la.extBut e1 D.l1z) hx fun g2 l2 s2 => wpAny_pure ?_))))
    have e2 := s2.extBut
    have to2 : IsPair g2 TO x0 y0 := e2 _ _ D.TOi1 (e1 _ _ D.TOz to)
    refine wpAny_bind (wpAny_seqItems to2 rfl (wpAny_bind (wpAny_updateSeq_pair to2 fun g3 to3' s3 => wpAny_bind (wpAny_letGo (wpAny_pure ?_)))))
    have e3 := s3.extBut
    refine wpAny_bind (wpAny_bind (wpAny_onRaise (show wpAny (model prog w) _ (Builtin.SmallTypes.nextOf (.ref i2) >>= _) _ _ _ from wpAny_bind (PySem.wpAny_nextOf_tuple_end calm (((t.extBut e1 D.i2z).extBut e2 D.i12.symm).extBut e3 D.TOi2.symm)
      (((tb.extBut e1 D.l2z).extBut e2 D.l2i1).extBut e3 D.l2TO) hy fun g4 e e4 ⟨oe, ho, hc⟩ => ?_))))
    have zz4 : IsZip g4 z TI TO .ellipsis := e4 _ _ D.i2z.symm (e3 _ _ D.TOz.symm (e2 _ _ D.i1z.symm zz1))
    have ne : e ≠ z := fun q => by rw [q, zz4] at ho; cases ho; simp at hc
    refine wpAny_setField_rec zz4 (by simp) fun g5 _ s5 => fin g5 e (fun c o nc q => ?_) ⟨oe, s5.extBut _ _ ne ho, hc⟩
    simp only [List.mem_cons, List.not_mem_nil, or_false, not_or] at nc
    exact s5.extBut _ _ nc.1 (e4 _ _ nc.2.2.2 (e3 _ _ nc.2.1 (e2 _ _ nc.2.2.1 (e1 _ _ nc.1 q))))
/-! ### made -/
abbrev zm1 (h : Heap) (a : Addr) : Heap := h.push { cls := .type "list_iterator", data := .fields #[.ref a, .int 0 0] }
abbrev zm2 (h : Heap) (a b : Addr) : Heap := (zm1 h a).push { cls := .type "tuple_iterator", data := .fields #[.ref b, .int 0 0] }
abbrev zm3 (h : Heap) (a b : Addr) : Heap := (zm2 h a b).push { cls := .type "tuple", data := .seq #[.ref h.objs.size, .ref (zm1 h a).objs.size] }
abbrev zm4 (h : Heap) (a b : Addr) : Heap := (zm3 h a b).push { cls := .type "tuple", data := .seq #[.none, .none] }
abbrev zm5 (h : Heap) (a b : Addr) : Heap := (zm4 h a b).push { cls := .type "zip", data := .fields #[.none, .bool false, .bool false, .ref (zm2 h a b).objs.size, .ref (zm3 h a b).objs.size] }
theorem meets_zm (a b : Addr) (xs ys : Array Value) : Meets (Builtin.«zip.__new__» ⟨[.type "zip", .ref a, .ref b], []⟩) (fun _ R s => s.heap.IsList a xs ∧ s.heap.IsTuple b ys ∧ R (.ok (.ret (.ref (zm4 s.heap a b).objs.size))) { s with heap := zm5 s.heap a b }) :=
  .of_wp fun prog w A R s h => by
    obtain ⟨hp, g, d, tk, os⟩ := s
    obtain ⟨la, tb, h⟩ := h
    have sub := sub_zip
    have p1 : Heap.IsList (Shared.heap ⟨hp, g, d, tk, os⟩) a xs := la
    have p2 : Heap.IsTuple (Shared.heap ⟨hp.push { cls := .type "list_iterator", data := .fields #[.ref a, .int 0 0] }, g, d, tk, os⟩) b ys := Heap.IsTuple.push tb _
    wp_walk using wpAny_pyIter_list p1, wpAny_pyIter_tuple p2
    exact ⟨_, rfl, h⟩
theorem call_zm {a b : Addr} {xs ys : Array Value} {Q : Value → Shared → Prop} (la : s.heap.IsList a xs) (tb : s.heap.IsTuple b ys)
    (h : ∀ g, Zm g (s.heap.objs.size + 4) (s.heap.objs.size + 2) (s.heap.objs.size + 3) s.heap.objs.size (s.heap.objs.size + 1) a b 0 0 .none .none .none → (∀ c o, s.heap.get? c = some o → g.get? c = some o) → Q (.ref (s.heap.objs.size + 4)) { s with heap := g }) :
    wpAny (model prog w) A (call (.type "zip") [.ref a, .ref b]) Q E s := by
  refine callType_new F.called_zip (by decide) (F.typeCall_zip_2 _ _) (F.newCall_zip_2 _ _) (fun obj => F.args_object_init_3 obj _ _) F.entry_zip_new (meets_zm a b xs ys) ⟨la, tb, ?_⟩
  have q1 : (zm1 s.heap a).objs.size = s.heap.objs.size + 1 := Heap.size_push ..
  have q2 : (zm2 s.heap a b).objs.size = s.heap.objs.size + 2 := (Heap.size_push ..).trans (by rw [q1])
  have q3 : (zm3 s.heap a b).objs.size = s.heap.objs.size + 3 := (Heap.size_push ..).trans (by rw [q2])
  have q4 : (zm4 s.heap a b).objs.size = s.heap.objs.size + 4 := (Heap.size_push ..).trans (by rw [q3])
  have u4 : ∀ c o, (zm4 s.heap a b).get? c = some o → (zm5 s.heap a b).get? c = some o := fun c o e => Heap.get?_push_of_some _ e
  have u3 : ∀ c o, (zm3 s.heap a b).get? c = some o → (zm5 s.heap a b).get? c = some o := fun c o e => u4 c o (Heap.get?_push_of_some _ e)
  have u2 : ∀ c o, (zm2 s.heap a b).get? c = some o → (zm5 s.heap a b).get? c = some o := fun c o e => u3 c o (Heap.get?_push_of_some _ e)
  have u1 : ∀ c o, (zm1 s.heap a).get? c = some o → (zm5 s.heap a b).get? c = some o := fun c o e => u2 c o (Heap.get?_push_of_some _ e)
  have o1 : (zm5 s.heap a b).get? s.heap.objs.size = some _ := u1 _ _ (Heap.get?_push_size _ rfl)
  have o2 : (zm5 s.heap a b).get? (zm1 s.heap a).objs.size = some _ := u2 _ _ (Heap.get?_push_size _ rfl)
  have o3 : (zm5 s.heap a b).get? (zm2 s.heap a b).objs.size = some _ := u3 _ _ (Heap.get?_push_size _ rfl)
  have o4 : (zm5 s.heap a b).get? (zm3 s.heap a b).objs.size = some _ := u4 _ _ (Heap.get?_push_size _ rfl)
  have o5 : (zm5 s.heap a b).get? (zm4 s.heap a b).objs.size = some _ := Heap.get?_push_size _ rfl
  rw [q2, q3, q4] at o5
  rw [q1, q2] at o3
  rw [q3] at o4
  rw [q1] at o2
  show _ ∧ _
  rw [q4]
  exact ⟨⟨_, o5, rfl⟩, h _ ⟨o5, o3, o4, ⟨_, o1, rfl, rfl⟩, ⟨_, o2, rfl, rfl⟩⟩ fun c o e => u1 c o (Heap.get?_push_of_some _ e)⟩
end
/-! ### walked -/
/-- the list at a and the tuple at b as they stand at each turn, the items in new pairs -/
def ItzM (K : PySem.W.Frag) (a b : Addr) : It :=
  ⟨fun i H => ∃ (vs us : List V) (v u : V), SqL K H a vs ∧ SqT K H b us ∧ vs[i]? = some v ∧ us[i]? = some u,
    fun i H r H' => ∃ q v u, r = .ref q ∧ H q = none ∧ H' = upd H q (.tup [v, u]) ∧ (∀ vs, SqL K H a vs → vs[i]? = some v) ∧ ∀ us, SqT K H b us → us[i]? = some u,
    fun i H => ∃ vs us : List V, SqL K H a vs ∧ SqT K H b us ∧ (vs.length ≤ i ∨ us.length ≤ i)⟩
theorem turn_zm {P : Program} {w : World} {K : PySem.W.Frag} {elts : List Expr} {kk : Nat} {tpos : Pos} {a b z TI TO i1 i2 : Addr} (D : ZipApart z TI TO i1 i2 a b) :
    Turn P w K (.Tuple elts kk tpos) (ItzM K a b) [z, TI, TO, i1, i2] z (fun i h => ∃ x y, Zm h z TI TO i1 i2 a b i i .none x y) where
  mem := by simp
  obj := fun i h ⟨x, y, Z⟩ c hc => by
    have hc' : c = z ∨ c = TI ∨ c = TO ∨ c = i1 ∨ c = i2 := by simpa using hc
    obtain ⟨o1, e1, _, d1⟩ := Z.l
    obtain ⟨o2, e2, _, d2⟩ := Z.t
    rcases hc' with rfl | rfl | rfl | rfl | rfl
    · exact ⟨_, Z.hz, fun v q => nomatch q⟩
    · exact ⟨_, Z.ti, fun v q => nomatch q⟩
    · exact ⟨_, Z.to, fun v q => nomatch q⟩
    · exact ⟨o1, e1, fun v q => by rw [d1] at q; cases q⟩
    · exact ⟨o2, e2, fun v q => by rw [d2] at q; cases q⟩
  keep := fun i h h' ⟨x, y, Z⟩ k => ⟨x, y, k z (by simp) _ Z.hz, k TI (by simp) _ Z.ti, k TO (by simp) _ Z.to, Z.l.at fun o q => k i1 (by simp) o q, Z.t.at fun o q => k i2 (by simp) o q⟩
  item := by
    intro X hP hw hK hc i pins s σ H E I hf ⟨x0, y0, Z⟩ ⟨vs, us, v, u, sl, st, gv, gu⟩
    subst hP hw hK
    obtain ⟨p, rv, pl, _⟩ := I.list sl
    obtain ⟨p', rv', pt, _⟩ := I.tuple st
    obtain ⟨x, ex, rx⟩ := rv.get gv
    obtain ⟨y, ey, ry⟩ := rv'.get gu
    have zl : z < s.heap.objs.size := Heap.lt_size Z.hz
    refine zm_item D Z pl.isList pt (x := x) (y := y) (by simpa using ex) (by simpa using ey) fun g Zg np sz kp => ⟨_, rfl, wpAny_letOwnedTupleGo_zip (s := { s with heap := g }) Zg.hz fun g' zg' sb => ?_⟩
    have np' : g'.get? s.heap.objs.size = some { cls := .type "tuple", data := .seq #[x, y] } := (sb.2 _ (Nat.ne_of_gt zl)).trans np
    have I1 : Inv X pins σ (upd H s.heap.objs.size (.tup [v, u])) { s with heap := g' } := I.turnedNew (t' := s.toks) (ch := [z, TI, TO, i1, i2]) (fun c o nc q => by
        simp only [List.mem_cons, List.not_mem_nil, or_false, not_or] at nc
        exact (sb.2 c nc.1).trans (kp c o (by simp [nc.1, nc.2.2.1, nc.2.2.2.1, nc.2.2.2.2]) q)) hf (Nat.le_refl _) ⟨by show 2 ≤ sizeLine; decide, [x, y], .cons rx (.cons ry .nil), ⟨_, np', rfl, _, rfl⟩⟩
    refine ⟨.ref s.heap.objs.size, _, I1, rfl, ⟨_, v, u, rfl, I.hok.fresh (Nat.le_refl _), rfl, fun l hl => by rw [I.list_inj hl sl]; exact gv, fun l hl => by rw [I.tuple_inj hl st]; exact gu⟩, ⟨x, y, zg', (sb.2 _ D.TIz).trans Zg.ti, (sb.2 _ D.TOz).trans Zg.to, Zg.l.at fun o q => (sb.2 _ D.i1z).trans q, Zg.t.at fun o q => (sb.2 _ D.i2z).trans q⟩, fun c hcm => ?_⟩
    have lt : c < s.heap.objs.size := by
      obtain ⟨o1, e1, _⟩ := Z.l
      obtain ⟨o2, e2, _⟩ := Z.t
      have hc' : c = z ∨ c = TI ∨ c = TO ∨ c = i1 ∨ c = i2 := by simpa using hcm
      rcases hc' with rfl | rfl | rfl | rfl | rfl
      · exact zl
      · exact Heap.lt_size Z.ti
      · exact Heap.lt_size Z.to
      · exact Heap.lt_size e1
      · exact Heap.lt_size e2
    rw [upd_ne (Nat.ne_of_lt lt)]
    exact (hf c hcm).1
  done := by
    intro X hP hw hK hc i pins s σ H E I hf ⟨x0, y0, Z⟩ ⟨vs, us, sl, st, ends⟩
    subst hP hw hK
    obtain ⟨p, rv, pl, _⟩ := I.list sl
    obtain ⟨p', rv', pt, _⟩ := I.tuple st
    have n1 := rv.length
    have n2 := rv'.length
    have out : p.toArray[i]? = none ∨ p'.toArray[i]? = none := by
      rcases ends with q | q
      · exact .inl (by simp; omega)
      · exact .inr (by simp; omega)
    refine zm_end (I.ok.hd hc) D Z pl.isList pt out fun g kp => ⟨rfl, I.turnedL (t' := s.toks) (ch := [z, TI, TO, i1, i2]) (fun c o nc q => ?_) hf⟩
    simp only [List.mem_cons, List.not_mem_nil, or_false, not_or] at nc
    exact kp c o (by simp [nc.1, nc.2.2.1, nc.2.2.2.1, nc.2.2.2.2]) q
  self := fun A i s Q E ⟨x, y, Z⟩ h => wpAny_pyIter_zip Z.hz h
/-- zip of two lists, of two tuples, of a list and a tuple -/
def iZipAny (K : PySem.W.Frag) (ta : TA) : TI := fun σ H R => ta σ H fun vs H1 => ∃ a b xs ys, vs = [.ref a, .ref b] ∧ ((SqL K H1 a xs ∧ SqL K H1 b ys ∧ R (Itz K a b) H1) ∨ (SqT K H1 a xs ∧ SqT K H1 b ys ∧ R (RZ.ItzT K a b) H1) ∨ (SqL K H1 a xs ∧ SqT K H1 b ys ∧ R (ItzM K a b) H1))
theorem pi_zipAny {X : Cx} {e e2 : Expr} {ta : TA} {p pos tpos : Pos} {elts : List Expr} {kk : Nat} (hg : Gl X "zip") (hm : X.mg "zip" = none) (ha : PA X [e, e2] ta)
    (hs : starEach [e, e2] X.env = (false, eval e X.env) :: starEach [e2] X.env) (hpl : (backTo pos (starEach [e2] X.env)).any (·.1) = false) :
    PI X (.Tuple elts kk tpos) (.Call (.Name "zip" p) [e, e2] [] pos) (iZipAny X.K ta) := by
  refine ⟨fun pins s σ H R I h => Call_ (ld_blt I hg hm PyProof.Rows.boot_zip (PyProof.Rows.callWith_type1 (thn (ha.run pos pins s σ H _ I h) fun us s1 ⟨vs, H1, I1, r1, a, b, xs, ys, ex, q1⟩ => ?_) hs hpl))⟩
  subst ex
  obtain ⟨u, u', rfl, ru, ru'⟩ := vals2 r1
  cases ru
  cases ru'
  have five : ∀ c, c ∈ [s1.heap.objs.size + 4, s1.heap.objs.size + 2, s1.heap.objs.size + 3, s1.heap.objs.size, s1.heap.objs.size + 1] → FpOk X pins H1 c := fun c hcm => by
    have le : s1.heap.objs.size ≤ c := by
      have : c = s1.heap.objs.size + 4 ∨ c = s1.heap.objs.size + 2 ∨ c = s1.heap.objs.size + 3 ∨ c = s1.heap.objs.size ∨ c = s1.heap.objs.size + 1 := by simpa using hcm
      rcases this with z | z | z | z | z <;> rw [z] <;> first | exact Nat.le_add_right _ _ | exact Nat.le_refl _
    exact I1.fpOk le (I1.hok.fresh le)
  rcases q1 with ⟨sa, sb, q⟩ | ⟨sa, sb, q⟩ | ⟨sa, sb, q⟩
  · obtain ⟨_, _, p1, _⟩ := I1.list sa
    obtain ⟨_, _, p2, _⟩ := I1.list sb
    refine call_zip_2 p1.isList p2.isList fun g hz ti to l1 l2 _ kp => wpAny_pyIter_zip hz ?_
    exact ⟨_, [s1.heap.objs.size + 4, s1.heap.objs.size + 2, s1.heap.objs.size + 3, s1.heap.objs.size, s1.heap.objs.size + 1], _, _, H1, rfl, I1.kept (t' := s1.toks) kp, turn_zip (PySem.W.ktu_apart s1.heap.objs.size a b p1.lt p2.lt), ⟨hz, ti, ⟨_, _, to⟩, l1, l2⟩, five, q⟩
  · obtain ⟨_, _, p1, _⟩ := I1.tuple sa
    obtain ⟨_, _, p2, _⟩ := I1.tuple sb
    obtain ⟨o1, l1, _⟩ := id p1
    obtain ⟨o2, l2, _⟩ := id p2
    refine RZ.call_zipT p1 p2 fun g hz ti to t1 t2 _ kp => wpAny_pyIter_zip hz ?_
    exact ⟨_, [s1.heap.objs.size + 4, s1.heap.objs.size + 2, s1.heap.objs.size + 3, s1.heap.objs.size, s1.heap.objs.size + 1], _, _, H1, rfl, I1.kept (t' := s1.toks) kp, RZ.turn_zipT (PySem.W.ktu_apart s1.heap.objs.size a b (Heap.lt_size l1) (Heap.lt_size l2)), ⟨hz, ti, ⟨_, _, to⟩, t1, t2⟩, five, q⟩
  · obtain ⟨_, _, p1, _⟩ := I1.list sa
    obtain ⟨_, _, p2, _⟩ := I1.tuple sb
    obtain ⟨o2, l2, _⟩ := id p2
    refine call_zm p1.isList p2 fun g Z kp => wpAny_pyIter_zip Z.hz ?_
    exact ⟨_, [s1.heap.objs.size + 4, s1.heap.objs.size + 2, s1.heap.objs.size + 3, s1.heap.objs.size, s1.heap.objs.size + 1], _, _, H1, rfl, I1.kept (t' := s1.toks) kp, turn_zm (PySem.W.ktu_apart s1.heap.objs.size a b p1.lt (Heap.lt_size l2)), ⟨_, _, Z⟩, five, q⟩
theorem gives_zipM {G : Gm} {d e : D} {a b : Addr} {xs ys : List D} (hd : ∀ zs, d ≠ .tup zs) (he : ∃ zs, e = .tup zs) : Gives G (ItzM G.K a b) (zipL xs ys) (fun M => stayD d xs M ∧ stayD e ys M) [d, e] [.ref a, .ref b] := by
  have two : ∀ {ρ H α M}, RM G ρ H α M → RDs G ρ H α [d, e] [.ref a, .ref b] → stayD d xs M ∧ stayD e ys M → ∃ vs us, SqL G.K H a vs ∧ RDs G ρ H α xs vs ∧ SqT G.K H b us ∧ RDs G ρ H α ys us := by
    intro ρ H α M rm r st
    obtain ⟨v, u, ev, q1, q2⟩ := r.two
    cases ev
    rcases seq_at rm q1 st.1 with ⟨w, w1, w2, w3⟩ | ⟨w, w1, w2, zs, w3⟩
    · rcases seq_at rm q2 st.2 with ⟨w', v1, v2, v3⟩ | ⟨w', v1, v2, v3⟩
      · obtain ⟨zs, e0⟩ := he; exact absurd e0 (v3 zs)
      · exact ⟨w, w', w1, w2, v1, v2⟩
    · exact absurd w3 (hd zs)
  refine ⟨fun H => ∃ vs us, SqL G.K H a vs ∧ SqT G.K H b us ∧ vs.length = xs.length ∧ us.length = ys.length, fun i H v H' => ∃ T x y, v = .ref T ∧ H T = none ∧ H' = upd H T (.tup [x, y]) ∧ (∀ us, SqL G.K H a us → us[i]? = some x) ∧ ∀ us, SqT G.K H b us → us[i]? = some y,
    ⟨fun i H hi ⟨vs, us, h1, h2, h3, h4⟩ => ?_, fun H ⟨vs, us, h1, h2, h3, h4⟩ => ⟨vs, us, h1, h2, by rw [zipL_length, h3, h4]; omega⟩, fun i H x H' hi g y => y⟩, fun ρ H α M r rm st => ?_, fun ρ i H x H' α M r rm st hi ⟨T, x', y', e1, e2, e3, e4, e5⟩ => ?_⟩
  · rw [zipL_length] at hi
    exact ⟨vs, us, vs[i]'(by omega), us[i]'(by omega), h1, h2, List.getElem?_eq_getElem _, List.getElem?_eq_getElem _⟩
  · obtain ⟨vs, us, h1, h2, h3, h4⟩ := two rm r st
    exact ⟨vs, us, h1, h3, h2.length.symm, h4.length.symm⟩
  · obtain ⟨vs, us, h1, h2, h3, h4⟩ := two rm r st
    obtain ⟨d', h5, h6⟩ := h2.get' (e4 vs h1)
    obtain ⟨f', h7, h8⟩ := h4.get' (e5 us h3)
    subst e1 e3
    obtain ⟨p1, p2, p3⟩ := pair_new (d := d') (e := f') rm e2 h6 h8
    exact ⟨_, zipL_get h5 h7, p1, p2, p3⟩
section
variable {X : Cx} {cad : Cad} {W : WX} {pos : Pos}
theorem i_zip {Γ : Tab} {tg a b : Expr} {a' b' : E} {p : Pos} (ht : ∃ elts k q, tg = .Tuple elts k q) (hg : Gl X "zip") (hm : X.mg "zip" = none) (h : PEU X cad W a (wpE Γ a')) (h2 : PEU X cad W b (wpE Γ b')) (hs : starEach [a, b] X.env = (false, eval a X.env) :: starEach [b] X.env) (hs2 : starEach [b] X.env = [(false, eval b X.env)]) :
    PIU X cad W tg (.Call (.Name "zip" p) [a, b] [] pos) (wpI Γ (.zip a' b')) := by
  obtain ⟨elts, k, q, rfl⟩ := ht
  refine PImono (pi_zipAny (p := p) (pos := pos) hg hm (pa_cons h (pa_cons h2 pa_nil hs2) hs) hs (by rw [hs2]; rfl)) fun σ H R ⟨ρ, δ, α, M, Q', X', rs, rm, t, hq, hx⟩ => ?_
  simp only [wpI] at t
  refine ⟨ρ, δ, α, M, _, _, rs, rm, t, fun x M1 q v H1 α1 n1 r1 m1 => ?_, hx⟩
  refine ⟨ρ, δ, α1, M1, _, _, rs.nx n1, m1, q, fun y M2 q2 u H2 α2 n2 r2 m2 => ?_, fun c d M' x => (hx c d M' x).nx n1⟩
  obtain ⟨xs, e1, q3⟩ := q2.inv
  obtain ⟨ys, e2, q4, q5⟩ := q3.inv
  have r1' := r1.nx n2
  obtain ⟨ad, vs, rfl, sq, rs1⟩ := seq_of m2 r1' e1
  obtain ⟨bd, us, rfl, sq2, rs2⟩ := seq_of m2 r2 e2
  refine ⟨ad, bd, ?_⟩
  rcases seq_at m2 r1' e1 with ⟨ws, k1, k2, k3⟩ | ⟨ws, k1, k2, zs, k3⟩
  · rcases seq_at m2 r2 e2 with ⟨ws', l1, l2, l3⟩ | ⟨ws', l1, l2, l3⟩
    · exact ⟨ws, ws', rfl, .inl ⟨k1, l1, hq _ _ _ q5 _ _ _ [x, y] [.ref ad, .ref bd] (n1.trans n2) m2 (RDs.cons r1' (RDs.cons r2 .nil)) (gives_zipL k3 l3)⟩⟩
    · exact ⟨ws, ws', rfl, .inr (.inr ⟨k1, l1, hq _ _ _ q5 _ _ _ [x, y] [.ref ad, .ref bd] (n1.trans n2) m2 (RDs.cons r1' (RDs.cons r2 .nil)) (gives_zipM k3 l3)⟩)⟩
  · rcases seq_at m2 r2 e2 with ⟨ws', l1, l2, l3⟩ | ⟨ws', l1, l2, zs', l3⟩
    · subst k3
      exfalso
      cases y <;> first | exact l3 _ rfl | (simp [isTupD] at q4; done)
    · exact ⟨ws, ws', rfl, .inr (.inl ⟨k1, l1, hq _ _ _ q5 _ _ _ [x, y] [.ref ad, .ref bd] (n1.trans n2) m2 (RDs.cons r1' (RDs.cons r2 .nil)) (gives_zipT ⟨_, k3⟩ ⟨_, l3⟩)⟩)⟩
end
end AA
/-! AA5r: repr. -/
namespace AA
open PySem PySem.Spec L2
open PyProof.Rows hiding St
theorem cr_repr {X : Cx} (gd : X.A.guards = some []) (hu : X.A.units + 64 < cLine) : CallR X (.builtin "repr") (rReprD X.K PyData.shown) := by
  intro pins s σ H xs us Q I r h
  obtain ⟨x, p, rfl, dp, ⟨h1, h2, h3, h4⟩, q⟩ := h
  obtain ⟨u, rfl, rx⟩ := vals1 r
  obtain ⟨as, rd⟩ := Dp.reads I p x u dp rx
  have hsz : p.shown.length ≤ sizeLine := h4
  cases rd with
  | none => exact PySem.P.repr_of_none ⟨.str _, H, I.tok _, ⟨_, rfl⟩, by simpa only [PyData.shown] using q⟩
  | bool b => exact PySem.P.repr_of_bool ⟨.str _, H, I.tok _, ⟨_, rfl⟩, by cases b <;> simpa only [PyData.shown] using q⟩
  | int i t => exact PySem.P.repr_of_int (by simpa [PyData.showable] using h1) ⟨.str _, H, I.tok _, ⟨_, rfl⟩, by simpa only [PyData.shown] using q⟩
  | str y t => exact PySem.P.repr_of_str ⟨.str _, H, I.tok _, ⟨_, rfl⟩, by simpa only [PyData.shown] using q⟩ (by simpa only [PyData.shown] using hsz)
  | list e1 e2 e3 e4 => exact repr_of_reads' (.list e1 e2 e3 e4) h1 (PyData.noDict_hsm h2) gd (by omega) (fun _ _ e => e) (fun h' w tk k => ⟨.str _, H, I.kept k, ⟨_, rfl⟩, q⟩) hsz
  | tuple e1 e2 e3 e4 => exact repr_of_reads' (.tuple e1 e2 e3 e4) h1 (PyData.noDict_hsm h2) gd (by omega) (fun _ _ e => e) (fun h' w tk k => ⟨.str _, H, I.kept k, ⟨_, rfl⟩, q⟩) hsz
  | dict e1 e2 e3 e4 e5 => simp [PyData.hasDict] at h2
end AA
/-! AA6: targets, comprehensions, statements. -/
namespace AA
open PySem PySem.Spec L2
open PyProof.Rows hiding St

/-! ### targets -/
mutual
def slotsT : T → List Nat
  | .nm i => [i]
  | .tp ts => slotsTs ts
def slotsTs : Ts → List Nat
  | .nil => []
  | .cons t ts => slotsT t ++ slotsTs ts
end
def SameBut (l : List Nat) (σ σ' : St) : Prop := ∀ vs : List Nat, (∀ i ∈ l, i ∈ vs) → wipe σ' vs = wipe σ vs
def upg (G : Gm) (t : T) : TG := fun v σ H Q => ∃ ρ δ α M d δ', RS G ρ H α δ σ ∧ RM G ρ H α M ∧ RD G ρ H α d v ∧ bindT t d δ = some δ' ∧ ∀ σ', RS G ρ H α δ' σ' → SameBut (slotsT t) σ σ' → Q σ' H
def upgs (G : Gm) (t : Ts) : TGs := fun v σ H Q => ∃ ρ δ α M d δ', RS G ρ H α δ σ ∧ RM G ρ H α M ∧ RDs G ρ H α d v ∧ bindT.bindTs t d δ = some δ' ∧ ∀ σ', RS G ρ H α δ' σ' → SameBut (slotsTs t) σ σ' → Q σ' H
theorem PGmono {X : Cx} {e : Expr} {t t' : TG} (h : PG X e t) (f : ∀ v σ H Q, t' v σ H Q → t v σ H Q) : PG X e t' := ⟨fun pins s σ H v u Q I r q => h.run pins s σ H v u Q I r (f _ _ _ _ q)⟩
theorem PGsmono {X : Cx} {e : List Expr} {t t' : TGs} (h : PGs X e t) (f : ∀ v σ H Q, t' v σ H Q → t v σ H Q) : PGs X e t' := ⟨fun pins s σ H v u Q I r q => h.run pins s σ H v u Q I r (f _ _ _ _ q)⟩
theorem wipe_set1 (σ : St) (i : Nat) (v : Option V) : ∀ us : List Nat, (wipe (σ.set i v) us).set i none = (wipe σ us).set i none
  | [] => by unfold wipe; rw [List.set_set]
  | w :: ws => by
    unfold wipe
    by_cases h : w = i
    · subst h
      rw [List.set_set, List.set_set]; exact wipe_set1 σ w v ws
    · rw [List.set_comm _ _ h, List.set_comm _ _ h, wipe_set1 σ i v ws]
theorem wipe_set {σ : St} {i : Nat} {v : Option V} : ∀ {vs : List Nat}, i ∈ vs → wipe (σ.set i v) vs = wipe σ vs
  | u :: us, h => by
    unfold wipe
    by_cases e : u = i
    · subst e; exact wipe_set1 σ u v us
    · rw [wipe_set (vs := us) ((List.mem_cons.mp h).resolve_left fun z => e z.symm)]
theorem wipe_idem (σ : St) : ∀ (us vs : List Nat), (∀ i ∈ us, i ∈ vs) → wipe (wipe σ us) vs = wipe σ vs
  | [], vs, _ => rfl
  | u :: us, vs, h => by
    have e : wipe σ (u :: us) = (wipe σ us).set u none := by rw [wipe]
    rw [e, wipe_set (h u List.mem_cons_self), wipe_idem σ us vs fun i hi => h i (List.mem_cons_of_mem _ hi)]
section
variable {X : Cx} {cad : Cad} {W : WX} {pos : Pos}
theorem g_name {i : Nat} {x : Str} (hN : X.N.Nodup) (hi : X.N[i]? = some x) (hx : Loc X.env.scope x) (hf : X.fn x = true ∨ X.env.scope.names.lookup x = some .local) : PG X (.Name x pos) (upg (gx X cad) (.nm i)) :=
  PGmono (pg_name hN hi hx hf) fun v σ H Q ⟨ρ, δ, α, M, d, δ', rs, rm, r, e, q⟩ => by
    simp only [bindT, Option.some.injEq] at e
    subst e
    exact q _ (rs.set r i) fun vs h => wipe_set (h i (by simp [slotsT]))
theorem gs_nil : PGs X [] (upgs (gx X cad) .nil) := PGsmono pgs_nil fun v σ H Q ⟨ρ, δ, α, M, d, δ', rs, rm, r, e, q⟩ => by
  cases d with
  | nil =>
    simp only [bindT.bindTs, Option.some.injEq] at e
    subst e
    exact ⟨r, q _ rs fun vs h => rfl⟩
  | cons _ _ => simp [bindT.bindTs] at e
theorem gs_cons {e : Expr} {es : List Expr} {t : T} {ts : Ts} (h1 : PG X e (upg (gx X cad) t)) (h2 : PGs X es (upgs (gx X cad) ts)) (hs : (assignEach (e :: es) X.env).map (·.2) = assign e X.env :: (assignEach es X.env).map (·.2)) : PGs X (e :: es) (upgs (gx X cad) (.cons t ts)) :=
  PGsmono (pgs_cons h1 h2 hs) fun v σ H Q ⟨ρ, δ, α, M, d, δ', rs, rm, r, e, q⟩ => by
    cases d with
    | nil => simp [bindT.bindTs] at e
    | cons d ds =>
      obtain ⟨u, us, rfl, r1, r2⟩ := r
      simp only [bindT.bindTs] at e
      cases e1 : bindT t d δ with
      | none => rw [e1] at e; cases e
      | some δ1 =>
        rw [e1] at e
        refine ⟨u, us, rfl, ρ, δ, α, M, d, δ1, rs, rm, r1, e1, fun σ' rs' w' => ⟨ρ, δ1, α, M, ds, δ', rs', rm, r2, e, fun σ2 rs2 w2 => q σ2 rs2 fun vs h => ?_⟩⟩
        rw [w2 vs fun i hi => h i (by simp [slotsTs, hi]), w' vs fun i hi => h i (by simp [slotsTs, hi])]
/-- a tuple or a list taken apart -/
theorem pg_any {es : List Expr} {k : Nat} {t : TGs} {n : Nat} (hc : X.calm = true) (h : PGs X es t) (hn : (assignEach es X.env).length = n) (hst : (assignEach es X.env).findIdx? (·.1) = none) :
    PG X (.Tuple es k pos) (fun v σ H Q => gTup X.K n t v σ H Q ∨ gLst X.K n t v σ H Q) :=
  ⟨fun pins s σ H v u Q I r hw => by
    rcases hw with hw | hw
    · exact (pg_tup (k := k) (pos := pos) hc h hn hst).run pins s σ H v u Q I r hw
    · exact (pg_lst (k := k) (pos := pos) hc h hn hst).run pins s σ H v u Q I r hw⟩
theorem g_tup {es : List Expr} {k n : Nat} {ts : Ts} (hc : X.calm = true) (h : PGs X es (upgs (gx X cad) ts)) (hn : (assignEach es X.env).length = n) (hst : (assignEach es X.env).findIdx? (·.1) = none)
    (hl : ∀ (ds : List D) δ δ', bindT.bindTs ts ds δ = some δ' → ds.length = n) : PG X (.Tuple es k pos) (upg (gx X cad) (.tp ts)) :=
  PGmono (pg_any (pos := pos) (k := k) hc h hn hst) fun v σ H Q ⟨ρ, δ, α, M, d, δ', rs, rm, r, e, q⟩ => by
    cases d <;> simp only [bindT] at e <;> try contradiction
    · rename_i ds
      obtain ⟨a, vs, rfl, t, r'⟩ := r
      exact .inl ⟨a, vs, rfl, t.sqt, by rw [← r'.length]; exact hl _ _ _ e, ρ, δ, α, M, ds, δ', rs, rm, r', e, fun σ' h1 h2 => q σ' h1 h2⟩
    rename_i ds
    obtain ⟨a, vs, rfl, t, r'⟩ := r
    exact .inr ⟨a, vs, rfl, t.sql, by rw [← r'.length]; exact hl _ _ _ e, ρ, δ, α, M, ds, δ', rs, rm, r', e, fun σ' h1 h2 => q σ' h1 h2⟩
def lenTs : Ts → Nat
  | .nil => 0
  | .cons _ ts => lenTs ts + 1
theorem bindTs_len : ∀ (ts : Ts) (ds : List D) δ δ', bindT.bindTs ts ds δ = some δ' → ds.length = lenTs ts
  | .nil, [], δ, δ', _ => rfl
  | .nil, _ :: _, δ, δ', h => by simp [bindT.bindTs] at h
  | .cons t ts, [], δ, δ', h => by simp [bindT.bindTs] at h
  | .cons t ts, d :: ds, δ, δ', h => by
    simp only [bindT.bindTs] at h
    cases e1 : bindT t d δ with
    | none => rw [e1] at h; cases h
    | some δ1 =>
      rw [e1] at h
      rw [List.length_cons, bindTs_len ts ds δ1 δ' h]; rfl

/-! ### comprehensions -/
theorem PTsmono {e : List Expr} {t t' : TT} (h : PTs X e t) (f : ∀ σ H Q, t' σ H Q → t σ H Q) : PTs X e t' := ⟨fun pins s σ H Q I q => h.run pins s σ H Q I (f _ _ _ q)⟩
theorem ts_nil {Γ : Tab} : PTs X [] (upt (gx X cad) W (wpC Γ .no)) := PTsmono pts_nil fun σ H Qv ⟨ρ, δ, α, M, Q', X', rs, rm, t, hq, hx⟩ => hq _ _ (by simpa only [wpC] using t) _ _ (Nx.refl ..) rm
end
section
variable {X : Cx} {cad : Cad} {W : WX}
theorem ts_one {Γ : Tab} {c : Expr} {c' : E} (h : PTU X cad W c (wpT Γ c')) : PTs X [c] (upt (gx X cad) W (wpC Γ (.so c'))) := by
  have q := pts_one h
  simpa only [wpC] using q
end
theorem RM.rhoAdd {G : Gm} {ρ α : List Addr} {H : Hp} {M : Mem} {p : Addr} {o : HO} (r : RM G ρ H α M) (h : H p = none) (t : notTbl o := by intro ps z; cases z) : RM G (p :: ρ) (upd H p o) α M := by
  have r' := r.new (o := o) h
  refine ⟨r'.len, r'.nd, fun b hb z => ?_, r'.tab, fun n a mo h1 h2 => ?_⟩
  · rcases List.mem_cons.mp hb with e | hb
    · rw [e] at z; exact z.no upd_same t
    · exact r'.rho b hb z
  · have q := r.at_ n a mo h1 h2
    have ne : a ≠ p := by
      obtain ⟨u, e⟩ := r.mem (List.mem_of_getElem? h1)
      exact ne_of_none e h
    cases mo with
    | lst ds => obtain ⟨vs, e, q⟩ := q; exact ⟨vs, by rw [upd_ne ne]; exact e, RDs.rho h _ _ q⟩
    | dct kvs => obtain ⟨vs, e, q1, q⟩ := q; exact ⟨vs, by rw [upd_ne ne]; exact e, q1, RDs.rho h _ _ q⟩
    | ins c fs => obtain ⟨dx, vs, e, q1, q⟩ := q; exact ⟨dx, vs, by rw [upd_ne ne]; exact e, q1, RDs.rho h _ _ q⟩
theorem RS.rhoAdd {G : Gm} {ρ α : List Addr} {H : Hp} {p : Addr} {o : HO} {δ : Dst} {σ : St} (r : RS G ρ H α δ σ) (h : H p = none) : RS G (p :: ρ) (upd H p o) α δ σ :=
  ⟨r.1, fun i d e => let ⟨v, h1, h2⟩ := r.2 i d e; ⟨v, h1, RD.rho h _ _ h2⟩⟩
theorem Own.weak {ρ ρ' α : List Addr} {H : Hp} {a : Addr} {o : HO} (w : Own ρ' H α a o) (hs : ∀ b ∈ ρ, b ∈ ρ') : Own ρ H α a o := ⟨w.1, fun z => w.2.1 (hs _ z), w.2.2⟩
mutual
theorem RD.weak {G : Gm} {ρ ρ' α : List Addr} {H : Hp} (hs : ∀ b ∈ ρ, b ∈ ρ') : ∀ (d : D) (v : V), RD G ρ' H α d v → RD G ρ H α d v
  | .non, v, r => r
  | .bl _, v, r => r
  | .int _, v, r => r
  | .str _, v, r => r
  | .tup xs, v, r => by
    obtain ⟨a, vs, e, t, rs⟩ := r
    refine ⟨a, vs, e, ?_, RDs.weak hs xs vs rs⟩
    rcases t with t | t
    · exact .inl (t.weak hs)
    · exact .inr t
  | .lst xs, v, r => by
    obtain ⟨a, vs, e, t, rs⟩ := r
    refine ⟨a, vs, e, ?_, RDs.weak hs xs vs rs⟩
    rcases t with t | t
    · exact .inl (t.weak hs)
    · exact .inr t
  | .ref k, v, r => r
  | .dic0, v, r => by
    obtain ⟨a, e, t⟩ := r
    exact ⟨a, e, t.weak hs⟩
  | .exc c d, v, r => by
    obtain ⟨a, dx, dv, e, na, ra, ha, nd, rd, hd, r⟩ := r
    exact ⟨a, dx, dv, e, na, fun z => ra (hs _ z), ha, nd, fun z => rd (hs _ z), hd, RD.weak hs d dv r⟩
theorem RDs.weak {G : Gm} {ρ ρ' α : List Addr} {H : Hp} (hs : ∀ b ∈ ρ, b ∈ ρ') : ∀ (ds : List D) (vs : List V), RDs G ρ' H α ds vs → RDs G ρ H α ds vs
  | [], vs, r => r
  | d :: ds, vs, r => by
    obtain ⟨v, vs', e, r1, rs⟩ := r
    exact ⟨v, vs', e, RD.weak hs d v r1, RDs.weak hs ds vs' rs⟩
end
theorem RM.weak {G : Gm} {ρ ρ' α : List Addr} {H : Hp} {M : Mem} (r : RM G ρ' H α M) (hs : ∀ b ∈ ρ, b ∈ ρ') : RM G ρ H α M :=
  ⟨r.len, r.nd, fun b hb => r.rho b (hs b hb), r.tab, fun n a mo h1 h2 => by
    have q := r.at_ n a mo h1 h2
    cases mo with
    | lst ds => obtain ⟨vs, e, q⟩ := q; exact ⟨vs, e, RDs.weak hs _ _ q⟩
    | dct kvs => obtain ⟨vs, e, q1, q⟩ := q; exact ⟨vs, e, q1, RDs.weak hs _ _ q⟩
    | ins c fs => obtain ⟨dx, vs, e, q1, q⟩ := q; exact ⟨dx, vs, e, q1, RDs.weak hs _ _ q⟩⟩
theorem Nx.drop {α α' : List Addr} {H H' : Hp} {p : Addr} {o : HO} (n : Nx [p] α (upd H p o) α' H') (h : H p = none) : Nx [] α H α' H' := by
  obtain ⟨β, e, hb⟩ := n.pre
  refine ⟨⟨β, e, fun b hb' => ?_⟩, fun a u e1 t ha _ => ?_, fun a e1 => ?_⟩
  · have z := hb b hb'
    by_cases hbp : b = p
    · exact .inl (by rw [hbp]; exact h)
    · unfold Fre at z ⊢; rwa [upd_ne hbp] at z
  · have ne : a ≠ p := ne_of_none e1 h
    exact n.keep a u (by rw [upd_ne ne]; exact e1) t ha (by simp [ne])
  · have z := n.stay a e1
    by_cases hbp : a = p
    · exact .inl (by rw [hbp]; exact h)
    · unfold Fre at z ⊢; rwa [upd_ne hbp] at z
theorem Nx.wk {χ χ' α α' : List Addr} {H H' : Hp} (n : Nx χ α H α' H') (hs : ∀ b ∈ χ, b ∈ χ') : Nx χ' α H α' H' := ⟨n.pre, fun a o h t h1 h2 => n.keep a o h t h1 fun z => h2 (hs _ z), n.stay⟩
theorem Nx.at1 {α : List Addr} {H : Hp} {p : Addr} {o u : HO} (h : H p = some u) (t : notTbl o := by intro ps z; cases z) : Nx [p] α H α (upd H p o) :=
  ⟨⟨[], by simp⟩, fun a v e _ _ hr => by rw [upd_ne (by simpa using hr)]; exact e, fun a e => by
    by_cases z : a = p
    · rw [z] at e; exact (e.no upd_same t).elim
    · unfold Fre at e ⊢; rwa [upd_ne z] at e⟩
/-- a reserved thing is written -/
theorem RM.at1 {G : Gm} {ρ α : List Addr} {H : Hp} {M : Mem} {p : Addr} {vs ws : List V} (r : RM G ρ H α M) (h : H p = some (.lst vs)) (hp : p ∉ α) (hr : p ∈ ρ) : RM G ρ (upd H p (.lst ws)) α M :=
  ⟨r.len, r.nd, fun b hb z => r.rho b hb ((Nx.at1 (α := α) (o := .lst ws) h).stay b z), tabs_at r.tab h (fun ps z => by cases z) (fun c q z => by unfold LamX.CodeO at z; cases z), fun k a mo h1 h2 => (r.at_ k a mo h1 h2).nx (Nx.at1 (α := α) (o := .lst ws) h) (upd_ne fun z => hp (by rw [← z]; exact List.mem_of_getElem? h1)) fun b hb => by rw [List.mem_singleton.mp hb]; exact hr⟩
theorem Nx.numAdd {χ α α' : List Addr} {H H' : Hp} {p : Addr} (n : Nx χ α H α' H') (h : Fre H p) : Nx χ α H (α' ++ [p]) H' := by
  obtain ⟨β, e, hb⟩ := n.pre
  refine ⟨⟨β ++ [p], by rw [e, List.append_assoc], fun b hb' => ?_⟩, n.keep, n.stay⟩
  rcases List.mem_append.mp hb' with z | z
  · exact hb b z
  · rw [List.mem_singleton.mp z]; exact h
theorem Own.mv {ρ α : List Addr} {H : Hp} {a p : Addr} {o : HO} (w : Own (p :: ρ) H α a o) : Own ρ H (α ++ [p]) a o := by
  obtain ⟨h1, h2, h3⟩ := w
  simp only [List.mem_cons, not_or] at h2
  exact ⟨by simp [h1, h2.1], h2.2, h3⟩
mutual
theorem RD.mv {G : Gm} {ρ α : List Addr} {H : Hp} {p : Addr} : ∀ (d : D) (v : V), RD G (p :: ρ) H α d v → RD G ρ H (α ++ [p]) d v
  | .non, v, r => r
  | .bl _, v, r => r
  | .int _, v, r => r
  | .str _, v, r => r
  | .tup xs, v, r => by
    obtain ⟨a, vs, e, t, rs⟩ := r
    refine ⟨a, vs, e, ?_, RDs.mv xs vs rs⟩
    rcases t with t | t
    · exact .inl t.mv
    · exact .inr t
  | .lst xs, v, r => by
    obtain ⟨a, vs, e, t, rs⟩ := r
    refine ⟨a, vs, e, ?_, RDs.mv xs vs rs⟩
    rcases t with t | t
    · exact .inl t.mv
    · exact .inr t
  | .ref k, v, r => by
    obtain ⟨a, e, t⟩ := r
    exact ⟨a, e, by rw [List.getElem?_append_left (List.getElem?_eq_some_iff.mp t).1]; exact t⟩
  | .dic0, v, r => by
    obtain ⟨a, e, t⟩ := r
    exact ⟨a, e, t.mv⟩
  | .exc c d, v, r => by
    obtain ⟨a, dx, dv, e, na, ra, ha, nd, rd, hd, r⟩ := r
    simp only [List.mem_cons, not_or] at ra rd
    exact ⟨a, dx, dv, e, by simp [na, ra.1], ra.2, ha, by simp [nd, rd.1], rd.2, hd, RD.mv d dv r⟩
theorem RDs.mv {G : Gm} {ρ α : List Addr} {H : Hp} {p : Addr} : ∀ (ds : List D) (vs : List V), RDs G (p :: ρ) H α ds vs → RDs G ρ H (α ++ [p]) ds vs
  | [], vs, r => r
  | d :: ds, vs, r => by
    obtain ⟨v, vs', e, r1, rs⟩ := r
    exact ⟨v, vs', e, RD.mv d v r1, RDs.mv ds vs' rs⟩
end
theorem RM.numAdd {G : Gm} {ρ α : List Addr} {H : Hp} {M : Mem} {p : Addr} {xs : List D} {vs : List V} (r : RM G (p :: ρ) H α M) (hp : p ∉ α) (h : H p = some (.lst vs)) (q : RDs G (p :: ρ) H α xs vs) : RM G ρ H (α ++ [p]) (M ++ [.lst xs]) := by
  refine ⟨by simp [r.len], ?_, fun b hb => r.rho b (List.mem_cons_of_mem _ hb), r.tab, fun k a mo' h1 h2 => ?_⟩
  · exact List.nodup_append.mpr ⟨r.nd, by simp, fun a ha b hb z => hp (by rw [← List.mem_singleton.mp hb, ← z]; exact ha)⟩
  · by_cases hk : k < α.length
    · rw [List.getElem?_append_left hk] at h1
      rw [List.getElem?_append_left (by rw [← r.len]; exact hk)] at h2
      have z := r.at_ k a mo' h1 h2
      cases mo' with
      | lst ds => obtain ⟨vs, e, q⟩ := z; exact ⟨vs, e, RDs.mv _ _ q⟩
      | dct kvs => obtain ⟨vs, e, q1, q⟩ := z; exact ⟨vs, e, q1, RDs.mv _ _ q⟩
      | ins c fs => obtain ⟨dx, vs, e, q1, q⟩ := z; exact ⟨dx, vs, e, q1, RDs.mv _ _ q⟩
    · have hl := (List.getElem?_eq_some_iff.mp h1).1
      have e : k = α.length := by simp at hl; omega
      subst e
      rw [List.getElem?_append_right (Nat.le_refl _)] at h1
      rw [List.getElem?_append_right (by rw [r.len]; exact Nat.le_refl _)] at h2
      simp [r.len] at h1 h2
      subst h1 h2
      exact ⟨vs, h, RDs.mv _ _ q⟩
section
variable {X : Cx} {cad : Cad} {W : WX} {pos : Pos}
/-- the end of a comprehension: a read-only list, or a numbered one -/
def endC (m : Bool) (Q : DK) : List D → Mem → Prop := fun ys M2 => if m = true then Q (.ref M2.length) (M2 ++ [.lst ys]) else Q (.lst ys) M2
theorem comp_up {Γ : Tab} {G : Gm} {m : Bool} {own : List (Str × Nat)} {t : T} {it : I} {c : Op} {e : E} {W' : WX} (ho : ∀ i ∈ slotsT t, i ∈ own.map (·.2)) :
    ∀ σ H Qv, up G W (wpE Γ (.comp m own t it c e)) σ H Qv → tLc (upi G W (wpI Γ it)) (upg G t) (upt G W' (wpC Γ c)) (up G W' (wpE Γ e)) (own.map (·.2)) σ H Qv := by
  rintro σ H Qv ⟨ρ, δ, α, M, Q', X', rs, rm, t0, hq, hx⟩
  have t1 : wpI Γ it δ M (fun xs stay M1 => compD (bindT t) (wpC Γ c) (wpE Γ e) stay (dwipe δ (own.map (·.2))) (endC m Q') xs [] M1) X' := by
    cases m <;> (simp only [wpE] at t0; exact t0)
  clear t0
  refine ⟨ρ, δ, α, M, _, _, rs, rm, t1, fun xs stay M1 q J H1 α1 ks kvs n1 m1 r1 g D hD => ?_, hx⟩
  obtain ⟨Gd, Y, w, hg, hy⟩ := g
  have hDα : D ∉ α1 := fun z => by obtain ⟨u, eu⟩ := m1.mem z; rw [hD] at eu; cases eu
  refine ⟨fun i n H => n = xs.length - i ∧ i ≤ xs.length ∧ ∃ α' M' acc av, Nx [D] α1 (upd H1 D (.lst [])) α' H ∧ RM G (D :: ρ) H α' M' ∧ H D = some (.lst av) ∧ RDs G (D :: ρ) H α' acc av ∧
    compD (bindT t) (wpC Γ c) (wpE Γ e) stay (dwipe δ (own.map (·.2))) (endC m Q') (xs.drop i) acc M', ⟨xs.length, by simp, Nat.zero_le _, α1, M1, [], [], Nx.refl .., m1.rhoAdd hD, upd_same, .nil, by simpa using q⟩, ?_⟩
  rintro i n H2 ⟨rfl, hi, α2, M2, acc, av, n2, m2, hD2, ra, cd⟩
  have sub1 : ∀ b ∈ [D], b ∈ D :: ρ := fun b hb => by rw [List.mem_singleton.mp hb]; exact List.mem_cons_self
  have kk : RDs G (D :: ρ) H2 α2 ks kvs := (RDs.rho (o := .lst []) hD _ _ r1).nx n2 sub1
  have hDα2 : D ∉ α2 := n2.notin upd_same hDα
  by_cases hlt : i < xs.length
  · have ed : xs.drop i = xs[i] :: xs.drop (i + 1) := List.drop_eq_getElem_cons hlt
    rw [ed] at cd
    obtain ⟨st, cd⟩ := cd
    obtain ⟨δ', eb, cd⟩ := cd.inv
    refine .inr ⟨w.goes i H2 hlt (hg _ _ _ _ kk m2 st), fun H => i + 1 ≤ xs.length ∧ ∃ α' M' acc av, Nx [D] α1 (upd H1 D (.lst [])) α' H ∧ RM G (D :: ρ) H α' M' ∧ H D = some (.lst av) ∧ RDs G (D :: ρ) H α' acc av ∧
      compD (bindT t) (wpC Γ c) (wpE Γ e) stay (dwipe δ (own.map (·.2))) (endC m Q') (xs.drop (i + 1)) acc M', fun H' p' => ⟨xs.length - (i + 1), by omega, rfl, p'⟩, fun x H3 y => ?_⟩
    obtain ⟨d, e1, n3, r3, m3⟩ := hy _ i H2 x H3 _ _ kk m2 st hlt (w.yields i H2 x H3 hlt (hg _ _ _ _ kk m2 st) y)
    rw [List.getElem?_eq_getElem hlt] at e1
    cases e1
    have hD3 : H3 D = some (.lst av) := n3.keep D _ hD2 (fun ps z => by cases z) hDα2 (by simp)
    have n23 : Nx [D] α1 (upd H1 D (.lst [])) α2 H3 := n2.trans (n3.wk fun b hb => by cases hb)
    have rs3 : RS G (D :: ρ) H3 α2 (dwipe δ (own.map (·.2))) (wipe σ (own.map (·.2))) := (((rs.nx n1).rhoAdd (o := .lst []) hD).nx n23 sub1).wipe _
    refine ⟨D :: ρ, dwipe δ (own.map (·.2)), α2, M2, xs[i], δ', rs3, m3, r3, eb, fun σ' rs' sb => ⟨?_, ?_⟩⟩
    · rw [sb _ ho]; exact wipe_idem σ _ _ fun i hi => hi
    refine ⟨D :: ρ, δ', α2, M2, _, _, rs', m3, cd, fun b M4 q4 H4 α4 n4 m4 => ?_, fun c d M' z => z.elim⟩
    have hD4 : H4 D = some (.lst av) := n4.keep D _ hD3 (fun ps z => by cases z) hDα2 (by simp)
    have hDα4 : D ∉ α4 := n4.notin hD3 hDα2
    have n24 : Nx [D] α1 (upd H1 D (.lst [])) α4 H4 := n23.trans (n4.wk fun b hb => by cases hb)
    have ra4 : RDs G (D :: ρ) H4 α4 acc av := (ra.nx n3).nx n4
    cases b with
    | false =>
      simp only [Bool.false_eq_true, if_false] at q4 ⊢
      exact ⟨hlt, α4, M4, acc, av, n24, m4, hD4, ra4, q4⟩
    | true =>
      simp only [if_true] at q4 ⊢
      refine ⟨D :: ρ, δ', α4, M4, _, _, rs'.nx n4, m4, q4, fun y' M5 q5 v5 H5 α5 n5 r5 m5 => ?_, fun c d M' z => z.elim⟩
      have hD5 : H5 D = some (.lst av) := n5.keep D _ hD4 (fun ps z => by cases z) hDα4 (by simp)
      have hDα5 : D ∉ α5 := n5.notin hD4 hDα4
      have n25 : Nx [D] α1 (upd H1 D (.lst [])) α5 H5 := n24.trans (n5.wk fun b hb => by cases hb)
      have ra5 : RDs G (D :: ρ) H5 α5 acc av := ra4.nx n5
      have nu : Nx [D] α5 H5 α5 (upd H5 D (.lst (av ++ [v5]))) := Nx.at1 hD5
      refine ⟨av, hD5, by rw [sizeLine_eq, ← ra.length]; exact q5.1, hlt, α5, M5, acc ++ [y'], av ++ [v5], n25.trans nu, m5.at1 hD5 hDα5 List.mem_cons_self, upd_same, ?_, q5.2⟩
      exact (ra5.append (RDs.cons r5 .nil)).nx nu sub1
  · have e : i = xs.length := by omega
    subst e
    rw [List.drop_length] at cd
    obtain ⟨st, cd⟩ := cd
    refine .inl ⟨w.stops H2 (hg _ _ _ _ kk m2 st), ?_⟩
    have nn : Nx [] α H α2 H2 := n1.trans (n2.drop hD)
    have m2' := m2.weak fun b hb => List.mem_cons_of_mem D hb
    have ra' := RDs.weak (fun b hb => List.mem_cons_of_mem D hb) _ _ ra
    cases m with
    | false =>
      have cd : Q' (.lst acc) M2 := cd
      exact hq _ _ cd _ _ _ nn ⟨D, av, rfl, .inl ⟨hDα2, fun z => m1.rho D z (.inl hD), .inl hD2⟩, ra'⟩ m2'
    | true =>
      have cd : Q' (.ref M2.length) (M2 ++ [.lst acc]) := cd
      refine hq _ _ cd _ _ (α2 ++ [D]) (nn.numAdd (n1.stay D (.inl hD))) ⟨D, rfl, ?_⟩ (m2.numAdd hDα2 hD2 ra)
      rw [← m2.len, List.getElem?_append_right (Nat.le_refl _)]; simp
end
end AA
/-! AA7: statements. -/
namespace AA
open PySem PySem.Spec L2
open PyProof.Rows hiding St
section
variable {X : Cx} {cad : Cad} {W : WX} {pos : Pos}
theorem EL.wx {G : Gm} {ρ α : List Addr} {H : Hp} {E' : DE} {E : Ends} (el : EL G W ρ α H E' E) {δ : Dst} {σ : L2.St} (rs : RS G ρ H α δ σ) {c : Nat} {d : D} {M' : Mem} (x : E'.xc c d δ M') : AA.wx G W ρ α H σ c d M' :=
  fun dx dv H' α' n a b e r m => el.xc c d δ M' x dx dv σ H' α' n a b e r (rs.nx n) m
theorem s_ex {Γ : Tab} {e : Expr} {e' : E} (hs : swapsWith e none pos.line X.env = pure false) (h : PEU X cad W e (wpE Γ e')) : PSU X cad W (.Expr e pos) (wpS Γ (.ex e')) :=
  (ps_expr h hs).mono fun D σ H ⟨ρ, δ, α, M, E', rs, rm, t, el⟩ => by
    simp only [wpS] at t
    exact ⟨ρ, δ, α, M, _, _, rs, rm, t, fun d M1 q v H1 α1 n1 r1 m1 => el.nx _ _ q _ _ _ n1 (rs.nx n1) m1, fun c d M' x => el.wx rs x⟩
theorem s_doc {Γ : Tab} {x j pos' } : PSU X cad W (.Expr (.Constant (.str x) j pos) pos') (wpS Γ .pass) :=
  ps_doc.mono fun D σ H ⟨ρ, δ, α, M, E', rs, rm, t, el⟩ => by
    simp only [wpS] at t
    exact el.nx _ _ t _ _ _ (Nx.refl ..) rs rm
theorem asg_up {Γ : Tab} {G : Gm} {e' : E} {t : T} : ∀ D σ H, ups G W (wpS Γ (.asg t e')) D σ H → tAsg (up G W (wpE Γ e')) (upg G t) D σ H := by
  rintro D σ H ⟨ρ, δ, α, M, E', rs, rm, t, el⟩
  simp only [wpS] at t
  refine ⟨ρ, δ, α, M, _, _, rs, rm, t, fun d M1 q v H1 α1 n1 r1 m1 => ?_, fun c d M' x => el.wx rs x⟩
  obtain ⟨δ', eb, q⟩ := q.inv
  exact ⟨ρ, δ, α1, M1, d, δ', rs.nx n1, m1, r1, eb, fun σ' rs' _ => el.nx _ _ q _ _ _ n1 rs' m1⟩
theorem s_asg {Γ : Tab} {tg e : Expr} {e' : E} {t : T} (h : PEU X cad W e (wpE Γ e')) (hg : PG X tg (upg (gx X cad) t)) (hs : swapsWithSole [tg] e pos.line X.env = pure false) (hw : swappedStores [tg] e X.env = pure none)
    (h1 : (assignEach [tg] X.env).map (·.2) = [assign tg X.env]) : PSU X cad W (.Assign [tg] e pos) (wpS Γ (.asg t e')) := (ps_asg h hg hs hw h1).mono asg_up
theorem s_asgl {Γ : Tab} {es : List Expr} {k n : Nat} {p : Pos} {e : Expr} {ts : Ts} {e' : E} (hc : X.calm = true) (h : PEU X cad W e (wpE Γ e')) (hg : PGs X es (upgs (gx X cad) ts)) (hn : (assignEach es X.env).length = n) (hst : (assignEach es X.env).findIdx? (·.1) = none)
    (hl : ∀ (ds : List D) δ δ', bindT.bindTs ts ds δ = some δ' → ds.length = n) (hs : swapsWithSole [.Tuple es k p] e pos.line X.env = pure false) (hw : swappedStores [.Tuple es k p] e X.env = pure none) : PSU X cad W (.Assign [.Tuple es k p] e pos) (wpS Γ (.asgl ts e')) :=
  (ps_asg h (pg_any (pos := p) (k := k) hc hg hn hst) hs hw (by rfl)).mono fun D σ H ⟨ρ, δ, α, M, E', rs, rm, t, el⟩ => by
    simp only [wpS] at t
    refine ⟨ρ, δ, α, M, _, _, rs, rm, t, fun d M1 q v H1 α1 n1 r1 m1 => ?_, fun c d M' x => el.wx rs x⟩
    obtain ⟨i, xs, rfl, hm, q1⟩ := numL.inv q
    obtain ⟨δ', eb, q2⟩ := bndD.inv q1
    obtain ⟨a, rfl, ha⟩ := r1
    obtain ⟨vs, h1, h2⟩ := m1.get ha hm
    exact .inr ⟨a, vs, rfl, SqL.of h1, by rw [← h2.length]; exact hl _ _ _ eb, ρ, δ, α1, M1, xs, δ', rs.nx n1, m1, h2, eb, fun σ' rs' _ => el.nx _ _ q2 _ _ _ n1 rs' m1⟩
theorem s_asgc {Γ : Tab} {i : Nat} {y : Str} {py p : Pos} {elt tg iter : Expr} {ifs : List Expr} {scope : Scope} {own : List (Str × Nat)} {m : Bool} {t : T} {it : I} {c : Op} {e : E} (hc : X.calm = true) (hN : X.N.Nodup) (hy : X.N[i]? = some y) (hyl : X.env.scope.names.lookup y = some .local)
    (hsw : swapsWith (.ListComp elt [⟨tg, iter, ifs, 0⟩] scope p) (some (.Name y py)) pos.line X.env = pure true) (hi : PIU X cad W tg iter (wpI Γ it)) (ok : BlkOk X.N X.env.scope scope own) (ho : ∀ i ∈ slotsT t, i ∈ own.map (·.2))
    (hg : ∀ (s : Shared) (H : Hp) (C : Addr) (cl : List (Str × Addr)) (fp : List Addr), PG (X.blk s H scope (compEnvC scope cl C X.env) fp) tg (upg (gx X cad) t))
    (ht : ∀ (s : Shared) (H : Hp) (C : Addr) (cl : List (Str × Addr)) (fp : List Addr), PTs (X.blk s H scope (compEnvC scope cl C X.env) fp) ifs (upt (gx X cad) (fun _ _ _ _ => False) (wpC Γ c)))
    (he : ∀ (s : Shared) (H : Hp) (C : Addr) (cl : List (Str × Addr)) (fp : List Addr), PE (X.blk s H scope (compEnvC scope cl C X.env) fp) elt (up (gx X cad) (fun _ _ _ _ => False) (wpE Γ e))) (hs : ∀ x, foldedSetIterable iter X.env x = pure x) :
    PSU X cad W (.Assign [.Name y py] (.ListComp elt [⟨tg, iter, ifs, 0⟩] scope p) pos) (wpS Γ (.asgc i (.comp m own t it c e))) :=
  (ps_setLc (pos := p) (spos := pos) (py := py) hc hN hy hyl hsw hi ok hg ht he hs).mono fun D σ H ⟨ρ, δ, α, M, E', rs, rm, t0, el⟩ => by
    simp only [wpS] at t0
    refine comp_up (W' := fun _ _ _ _ => False) (G := gx X cad) (W := W) (Γ := Γ) (m := m) ho σ H _ ⟨ρ, δ, α, M, _, _, rs, rm, t0, fun d M1 q v H1 α1 n1 r1 m1 => ?_, fun c d M' x => el.wx rs x⟩
    exact el.nx _ _ q _ _ _ n1 ((rs.nx n1).set r1 i) m1
theorem u_comp {Γ : Tab} {p : Pos} {elt tg iter : Expr} {ifs : List Expr} {scope : Scope} {own : List (Str × Nat)} {m : Bool} {t : T} {it : I} {c : Op} {e : E} (hc : X.calm = true) (hN : X.N.Nodup)
    (hi : PIU X cad W tg iter (wpI Γ it)) (ok : BlkOk X.N X.env.scope scope own) (ho : ∀ i ∈ slotsT t, i ∈ own.map (·.2))
    (hg : ∀ (s : Shared) (H : Hp) (C : Addr) (cl : List (Str × Addr)) (fp : List Addr), PG (X.blk s H scope (compEnvC scope cl C X.env) fp) tg (upg (gx X cad) t))
    (ht : ∀ (s : Shared) (H : Hp) (C : Addr) (cl : List (Str × Addr)) (fp : List Addr), PTs (X.blk s H scope (compEnvC scope cl C X.env) fp) ifs (upt (gx X cad) (fun _ _ _ _ => False) (wpC Γ c)))
    (he : ∀ (s : Shared) (H : Hp) (C : Addr) (cl : List (Str × Addr)) (fp : List Addr), PE (X.blk s H scope (compEnvC scope cl C X.env) fp) elt (up (gx X cad) (fun _ _ _ _ => False) (wpE Γ e))) (hs : ∀ x, foldedSetIterable iter X.env x = pure x) :
    PEU X cad W (.ListComp elt [⟨tg, iter, ifs, 0⟩] scope p) (wpE Γ (.comp m own t it c e)) :=
  (pe_lc (pos := p) hc hN hi ok hg ht he hs).mono (comp_up (W' := fun _ _ _ _ => False) (G := gx X cad) (W := W) (Γ := Γ) (m := m) ho)
theorem s_ret {Γ : Tab} {e : Expr} {e' : E} (h : PEU X cad W e (wpE Γ e')) : PSU X cad W (.Return (some e) pos) (wpS Γ (.ret e')) :=
  (ps_ret h).mono fun D σ H ⟨ρ, δ, α, M, E', rs, rm, t, el⟩ => by
    simp only [wpS] at t
    exact ⟨ρ, δ, α, M, _, _, rs, rm, t, fun d M1 q => el.rt _ _ q, fun c d M' x => el.wx rs x⟩
theorem s_retn {Γ : Tab} : PSU X cad W (.Return none pos) (wpS Γ .retn) :=
  ps_retN.mono fun D σ H ⟨ρ, δ, α, M, E', rs, rm, t, el⟩ => by
    simp only [wpS] at t
    exact el.rt _ _ t _ _ _ (Nx.refl ..) rfl rm
theorem s_pass {Γ : Tab} : PSU X cad W (.Pass pos) (wpS Γ .pass) :=
  ps_pass.mono fun D σ H ⟨ρ, δ, α, M, E', rs, rm, t, el⟩ => by
    simp only [wpS] at t
    exact el.nx _ _ t _ _ _ (Nx.refl ..) rs rm
theorem s_brk {Γ : Tab} : PSU X cad W (.Break pos) (wpS Γ .brk) :=
  ps_break.mono fun D σ H ⟨ρ, δ, α, M, E', rs, rm, t, el⟩ => by
    simp only [wpS] at t
    exact el.bk _ _ t _ _ _ (Nx.refl ..) rs rm
theorem s_cont {Γ : Tab} : PSU X cad W (.Continue pos) (wpS Γ .cont) :=
  ps_continue.mono fun D σ H ⟨ρ, δ, α, M, E', rs, rm, t, el⟩ => by
    simp only [wpS] at t
    exact el.ct _ _ t _ _ _ (Nx.refl ..) rs rm
theorem s_if {Γ : Tab} {c : Expr} {a b : List Stmt} {c' : E} {a' b' : Ss} (hc : PTU X cad W c (wpT Γ c')) (ha : PSsU X cad W a (wpSs Γ a')) (hb : PSsU X cad W b (wpSs Γ b')) : PSU X cad W (.If c a b pos) (wpS Γ (.if_ c' a' b')) :=
  (ps_if hc ha hb).mono fun D σ H ⟨ρ, δ, α, M, E', rs, rm, t, el⟩ => by
    simp only [wpS] at t
    refine ⟨ρ, δ, α, M, _, _, rs, rm, t, fun b M1 q H1 α1 n1 m1 => ?_, fun c d M' x => el.wx rs x⟩
    cases b with
    | true => simp only [if_true] at q ⊢; exact ⟨ρ, δ, α1, M1, E', rs.nx n1, m1, q, el.nx' n1⟩
    | false => simp only [Bool.false_eq_true, if_false] at q ⊢; exact ⟨ρ, δ, α1, M1, E', rs.nx n1, m1, q, el.nx' n1⟩
theorem ss_nil {Γ : Tab} : PSsU X cad W [] (wpSs Γ .nil) :=
  pss_nil.mono fun D σ H ⟨ρ, δ, α, M, E', rs, rm, t, el⟩ => by
    simp only [wpSs] at t
    exact el.nx _ _ t _ _ _ (Nx.refl ..) rs rm
theorem ss_cons {Γ : Tab} {s : Stmt} {ss : List Stmt} {s' : S} {ss' : Ss} (h1 : PSU X cad W s (wpS Γ s')) (h2 : PSsU X cad W ss (wpSs Γ ss')) : PSsU X cad W (s :: ss) (wpSs Γ (.cons s' ss')) :=
  (pss_cons h1 h2).mono fun D σ H ⟨ρ, δ, α, M, E', rs, rm, t, el⟩ => by
    simp only [wpSs] at t
    exact ⟨ρ, δ, α, M, _, rs, rm, t, ⟨fun δ1 M1 q σ1 H1 α1 n1 r1 m1 => ⟨ρ, δ1, α1, M1, E', r1, m1, q, el.nx' n1⟩, el.rt, el.bk, el.ct, el.xc⟩⟩
theorem s_for {Γ : Tab} {tg iter : Expr} {body : List Stmt} {t : T} {it : I} {b' : Ss} (hp : PassesOwn (model X.prog X.w) X.A X.env X.xe) (hc : X.calm = true) (hi : PIU X cad W tg iter (wpI Γ it)) (hg : PG X tg (upg (gx X cad) t)) (hb : PSsU X cad W body (wpSs Γ b'))
    (hs : ∀ x, foldedSetIterable iter X.env x = pure x) : PSU X cad W (.For tg iter body [] pos) (wpS Γ (.for_ t it b')) :=
  (ps_for hp hc hi hg hb hs).mono fun D σ H ⟨ρ, δ, α, M, E', rs, rm, t0, el⟩ => by
    simp only [wpS] at t0
    refine ⟨ρ, δ, α, M, _, _, rs, rm, t0, fun xs stay M1 q J H1 α1 ks kvs n1 m1 r1 g => ?_, fun c d M' x => el.wx rs x⟩
    obtain ⟨Gd, Y, w, hg, hy⟩ := g
    refine ⟨fun i n σ H => n = xs.length - i ∧ i ≤ xs.length ∧ ∃ δ α' M', Nx [] α1 H1 α' H ∧ RS (gx X cad) ρ H α' δ σ ∧ RM (gx X cad) ρ H α' M' ∧ forD (bindT t) (wpSs Γ b') stay E' (xs.drop i) δ M',
      ⟨xs.length, by simp, Nat.zero_le _, δ, α1, M1, Nx.refl .., rs.nx n1, m1, by simpa using q⟩, ?_⟩
    rintro i n σ2 H2 ⟨rfl, hi, δ2, α2, M2, n2, rs2, m2, fd⟩
    have kk := r1.nx n2
    by_cases hlt : i < xs.length
    · have ed : xs.drop i = xs[i] :: xs.drop (i + 1) := List.drop_eq_getElem_cons hlt
      rw [ed] at fd
      obtain ⟨st, fd⟩ := fd
      obtain ⟨δ', eb, fd⟩ := fd.inv
      refine .inr ⟨w.goes i H2 hlt (hg _ _ _ _ kk m2 st), fun σ H => i + 1 ≤ xs.length ∧ ∃ δ α' M', Nx [] α1 H1 α' H ∧ RS (gx X cad) ρ H α' δ σ ∧ RM (gx X cad) ρ H α' M' ∧ forD (bindT t) (wpSs Γ b') stay E' (xs.drop (i + 1)) δ M', fun σ' H' p' => ⟨xs.length - (i + 1), by omega, rfl, p'⟩, fun x H3 y => ?_⟩
      obtain ⟨d, e1, n3, r3, m3⟩ := hy _ i H2 x H3 _ _ kk m2 st hlt (w.yields i H2 x H3 hlt (hg _ _ _ _ kk m2 st) y)
      rw [List.getElem?_eq_getElem hlt] at e1
      cases e1
      refine ⟨ρ, δ2, α2, M2, xs[i], δ', rs2.nx n3, m3, r3, eb, fun σ' rs' _ => ⟨ρ, δ', α2, M2, _, rs', m3, fd, ?_⟩⟩
      have n23 := n2.trans n3
      have again : ∀ δ M, forD (bindT t) (wpSs Γ b') stay E' (xs.drop (i + 1)) δ M → ws (gx X cad) ρ α2 H3 (fun σ H => i + 1 ≤ xs.length ∧ ∃ δ α' M', Nx [] α1 H1 α' H ∧ RS (gx X cad) ρ H α' δ σ ∧ RM (gx X cad) ρ H α' M' ∧ forD (bindT t) (wpSs Γ b') stay E' (xs.drop (i + 1)) δ M') δ M :=
        fun δ M q σ4 H4 α4 n4 r4 m4 => ⟨hlt, δ, α4, M, n23.trans n4, r4, m4, q⟩
      have el' := el.nx' (n1.trans n23)
      exact ⟨again, el'.rt, el'.nx, again, el'.xc⟩
    · have e : i = xs.length := by omega
      subst e
      rw [List.drop_length] at fd
      obtain ⟨st, fd⟩ := fd
      exact .inl ⟨w.stops H2 (hg _ _ _ _ kk m2 st), el.nx _ _ fd _ _ _ (n1.trans n2) rs2 m2⟩
theorem s_while {Γ : Tab} {c : Expr} {body : List Stmt} {c' : E} {b' : Ss} (hp : PassesOwn (model X.prog X.w) X.A X.env X.xe) (hc : PTU X cad W c (wpT Γ c')) (hb : PSsU X cad W body (wpSs Γ b')) : PSU X cad W (.While c body [] pos) (wpS Γ (.while_ c' b')) :=
  (ps_while hp hc hb).mono fun D σ H ⟨ρ, δ, α, M, E', rs, rm, t0, el⟩ => by
    simp only [wpS] at t0
    obtain ⟨n, t0⟩ := t0
    refine ⟨fun n σ2 H2 => ∃ δ2 α2 M2, Nx [] α H α2 H2 ∧ RS (gx X cad) ρ H2 α2 δ2 σ2 ∧ RM (gx X cad) ρ H2 α2 M2 ∧ whileN (wpT Γ c') (wpSs Γ b') E' n δ2 M2, ⟨n, δ, α, M, Nx.refl .., rs, rm, t0⟩, ?_⟩
    rintro n σ2 H2 ⟨δ2, α2, M2, n2, rs2, m2, q2⟩
    cases n with
    | zero => exact q2.elim
    | succ n =>
      refine ⟨ρ, δ2, α2, M2, _, _, rs2, m2, q2, fun b M3 q3 H3 α3 n3 m3 => ?_, fun c d M' x => x.elim⟩
      have el' := el.nx' (n2.trans n3)
      cases b with
      | true =>
        simp only [if_true] at q3 ⊢
        refine ⟨fun σ4 H4 => ∃ δ4 α4 M4, Nx [] α H α4 H4 ∧ RS (gx X cad) ρ H4 α4 δ4 σ4 ∧ RM (gx X cad) ρ H4 α4 M4 ∧ whileN (wpT Γ c') (wpSs Γ b') E' n δ4 M4, fun σ' H' p' => ⟨n, Nat.lt_succ_self _, p'⟩, ρ, δ2, α3, M3, _, rs2.nx n3, m3, q3, ?_⟩
        have again : ∀ δ M, whileN (wpT Γ c') (wpSs Γ b') E' n δ M → ws (gx X cad) ρ α3 H3 (fun σ4 H4 => ∃ δ4 α4 M4, Nx [] α H α4 H4 ∧ RS (gx X cad) ρ H4 α4 δ4 σ4 ∧ RM (gx X cad) ρ H4 α4 M4 ∧ whileN (wpT Γ c') (wpSs Γ b') E' n δ4 M4) δ M :=
          fun δ M q σ4 H4 α4 n4 r4 m4 => ⟨δ, α4, M, (n2.trans n3).trans n4, r4, m4, q⟩
        exact ⟨again, el'.rt, el'.nx, again, el'.xc⟩
      | false =>
        simp only [Bool.false_eq_true, if_false] at q3 ⊢
        exact el'.nx _ _ q3 _ _ _ (Nx.refl ..) (rs2.nx n3) m3
theorem s_par {Γ : Tab} {i j : Nat} {x y : Str} {a b : Expr} {a' b' : E} {px py pt : Pos} {kt k2 pt2} (hc : X.calm = true) (hN : X.N.Nodup) (hi : X.N[i]? = some x) (hj : X.N[j]? = some y) (hij : i ≠ j)
    (hx : X.env.scope.names.lookup x = some .local) (hy : X.env.scope.names.lookup y = some .local) (ha : PAU X cad W [a, b] (wpEs Γ (.cons a' (.cons b' .nil))))
    (hw : swappedStores [.Tuple [.Name x px, .Name y py] kt pt] (.Tuple [a, b] k2 pt2) X.env = pure (some [x, y]))
    (hs : swapsWithSole [.Tuple [.Name x px, .Name y py] kt pt] (.Tuple [a, b] k2 pt2) pos.line X.env = pure false) :
    PSU X cad W (.Assign [.Tuple [.Name x px, .Name y py] kt pt] (.Tuple [a, b] k2 pt2) pos) (wpS Γ (.par i j a' b')) :=
  (ps_par hc hN hi hj hij hx hy ha hw hs).mono fun D σ H ⟨ρ, δ, α, M, E', rs, rm, t, el⟩ => by
    simp only [wpS] at t
    refine ⟨ρ, δ, α, M, _, _, rs, rm, t, fun ds M1 q vs H1 α1 n1 r1 m1 => ?_, fun c d M' x => el.wx rs x⟩
    obtain ⟨x, y, e, q⟩ := q.inv
    subst e
    obtain ⟨v, u, rfl, r1, r2⟩ := r1.two
    exact ⟨v, u, rfl, el.nx _ _ q _ _ _ n1 (((rs.nx n1).set r1 i).set r2 j) m1⟩
theorem s_par3 {Γ : Tab} {i j l : Nat} {x y z : Str} {a b c : Expr} {a' b' c' : E} {px py pz pt : Pos} {kt k2 pt2} (hc : X.calm = true) (hN : X.N.Nodup) (hi : X.N[i]? = some x) (hj : X.N[j]? = some y) (hl : X.N[l]? = some z) (hij : i ≠ j) (hil : i ≠ l) (hjl : j ≠ l)
    (hx : X.env.scope.names.lookup x = some .local) (hy : X.env.scope.names.lookup y = some .local) (hz : X.env.scope.names.lookup z = some .local) (ha : PAU X cad W [a, b, c] (wpEs Γ (.cons a' (.cons b' (.cons c' .nil)))))
    (hw : swappedStores [.Tuple [.Name x px, .Name y py, .Name z pz] kt pt] (.Tuple [a, b, c] k2 pt2) X.env = pure (some [x, y, z]))
    (hs : swapsWithSole [.Tuple [.Name x px, .Name y py, .Name z pz] kt pt] (.Tuple [a, b, c] k2 pt2) pos.line X.env = pure false) :
    PSU X cad W (.Assign [.Tuple [.Name x px, .Name y py, .Name z pz] kt pt] (.Tuple [a, b, c] k2 pt2) pos) (wpS Γ (.par3 i j l a' b' c')) :=
  (L2.ps_par3 hc hN hi hj hl hij hil hjl hx hy hz ha hw hs).mono fun D σ H ⟨ρ, δ, α, M, E', rs, rm, t, el⟩ => by
    simp only [wpS] at t
    refine ⟨ρ, δ, α, M, _, _, rs, rm, t, fun ds M1 q vs H1 α1 n1 r1 m1 => ?_, fun c d M' x => el.wx rs x⟩
    obtain ⟨x, y, z, e, q⟩ := q.inv
    subst e
    obtain ⟨v, vs', rfl, r1, r2⟩ := r1
    obtain ⟨u, w, rfl, r2, r3⟩ := RDs.two r2
    exact ⟨v, u, w, rfl, el.nx _ _ q _ _ _ n1 ((((rs.nx n1).set r1 i).set r2 j).set r3 l) m1⟩

/-! ### lists changed -/
theorem s_seti {Γ : Tab} {o i e : Expr} {o' i' e' : E} {p : Pos} (hu : X.A.units + 64 < cLine) (ho : PEU X cad W o (wpE Γ o')) (hi : PEU X cad W i (wpE Γ i')) (he : PEU X cad W e (wpE Γ e')) (hs : swapsWithSole [.Subscript o i p] e pos.line X.env = pure false) (hw : swappedStores [.Subscript o i p] e X.env = pure none)
    (h1 : (assignEach [.Subscript o i p] X.env).map (·.2) = [assign (.Subscript o i p) X.env])
    (ha : ∀ v, assign (.Subscript o i p) X.env v = (do
      let ov ← holding [v] (eval o X.env)
      let iv ← holding [v, ov] (eval i X.env)
      standAt p
      holding [v, ov, iv] (setItem ov iv v)
      release [v, ov, iv] [])) : PSU X cad W (.Assign [.Subscript o i p] e pos) (wpS Γ (.seti o' i' e')) :=
  (ps_asg he (pg_sub ho hi (set_or set_list (set_dic (Nat.lt_of_le_of_lt (Nat.add_le_add_left (by decide) _) hu))) ha) hs hw h1).mono fun D σ H ⟨ρ, δ, α, M, E', rs, rm, t, el⟩ => by
    simp only [wpS] at t
    refine ⟨ρ, δ, α, M, _, _, rs, rm, t, fun d M1 q v H1 α1 n1 r1 m1 => ?_, fun c d M' x => el.wx rs x⟩
    refine ⟨ρ, δ, α1, M1, _, _, rs.nx n1, m1, q, fun x M2 q2 u H2 α2 n2 r2 m2 => ?_, fun c d M' x => (el.wx rs x).nx n1⟩
    refine ⟨ρ, δ, α2, M2, _, _, rs.nx (n1.trans n2), m2, q2, fun y M3 q3 w H3 α3 n3 r3 m3 => ?_, fun c d M' x => (el.wx rs x).nx (n1.trans n2)⟩
    rcases q3.inv with ⟨n, xs, k, j, rfl, hm, rfl, hj, q6⟩ | ⟨n, kvs, key, rfl, hm, hkey, hl, q6⟩
    · cases r3
      obtain ⟨a, rfl, hα⟩ := r2.nx n3
      obtain ⟨us, h1, h2⟩ := m3.get hα hm
      have r1' := r1.nx (n2.trans n3)
      have nw : Nx [] α3 H3 α3 (upd H3 a (.lst (us.set j v))) := Nx.write h1 (List.mem_of_getElem? hα)
      refine .inl ⟨a, us, k, j, rfl, rfl, h1, by rw [← h2.length]; exact hj, ?_⟩
      refine el.nx _ _ q6 _ _ _ (((n1.trans n2).trans n3).trans nw) (rs.nx (((n1.trans n2).trans n3).trans nw)) (m3.write hα ⟨_, upd_same, (h2.set r1' j).nx nw⟩)
    · obtain ⟨a, rfl, hα⟩ := r2.nx n3
      obtain ⟨us, h1, h2, h3⟩ := m3.get hα hm
      have r1' := r1.nx (n2.trans n3)
      have nw : Nx [] α3 H3 α3 (upd H3 a (.dK (putK us key v))) := Nx.write h1 (List.mem_of_getElem? hα)
      refine .inr ⟨a, us, key, rfl, keyD_rel hkey r3, h1, by rw [sizeLine_eq, ← len_rel h2]; exact hl, ?_⟩
      obtain ⟨p1, p2⟩ := put_rel (key := key) h2 h3 r1'
      refine el.nx _ _ q6 _ _ _ (((n1.trans n2).trans n3).trans nw) (rs.nx (((n1.trans n2).trans n3).trans nw)) (m3.write hα ⟨_, upd_same, p1, p2.nx nw⟩)
/-- o.append(e) -/
theorem u_app {Γ : Tab} {o e : Expr} {o' e' : E} {ap : Pos} (ho : PEU X cad W o (wpE Γ o')) (he : PEU X cad W e (wpE Γ e')) (hbase : attributeBase o "append" X.env (eval o X.env) = eval o X.env)
    (hfew : ((backTo pos (starEach [e] X.env)).all (fun x => !x.1) && (backToKw pos (keywordEach [] X.env)).all (fun x => x.1.isSome)
      && decide ([e].length + ([] : List Keyword).length + (if ([] : List Keyword).isEmpty then 0 else 1) < 30)) = true)
    (hline : (ap.endLine == pos.line) = true) (hs : starEach [e] X.env = (false, eval e X.env) :: starEach [] X.env) : PEU X cad W (.Call (.Attribute o "append" ap) [e] [] pos) (wpE Γ (.app o' e')) :=
  (pe_bm (apos := ap) (cpos := pos) PySem.F.plainAttrs_list PySem.F.slot_list_append PySem.F.type_list_append mt_append ho (pa_cons he pa_nil hs) hbase hfew hline hs rfl).mono fun σ H Qv ⟨ρ, δ, α, M, Q', X', rs, rm, t, hq, hx⟩ => by
    simp only [wpE] at t
    refine ⟨ρ, δ, α, M, _, _, rs, rm, t, fun x M1 q v H1 α1 n1 r1 m1 => ?_, hx⟩
    obtain ⟨n, xs, rfl, hm, q2⟩ := q.inv
    obtain ⟨a, rfl, hα⟩ := id r1
    obtain ⟨us, h1, h2⟩ := m1.get hα hm
    refine ⟨.inl ⟨rfl, us, SqL.of h1⟩, ρ, δ, α1, M1, _, _, rs.nx n1, m1, q2, fun y M2 q3 u H2 α2 n2 r2 m2 => ?_, fun c d M' x => (hx c d M' x).nx n1⟩
    obtain ⟨n', ys, e1, hm2, hlt, q4⟩ := q3.inv
    cases e1
    have hα2 := num_nx n2 hα
    obtain ⟨ws, k1, k2⟩ := m2.get hα2 hm2
    have nw : Nx [] α2 H2 α2 (upd H2 a (.lst (ws ++ [u]))) := Nx.write k1 (List.mem_of_getElem? hα2)
    exact ⟨a, ws, u, rfl, rfl, k1, by rw [sizeLine_eq, ← k2.length]; exact hlt, hq _ _ q4 _ _ _ ((n1.trans n2).trans nw) rfl (m2.write hα2 ⟨_, upd_same, (k2.append (RDs.cons r2 .nil)).nx nw⟩)⟩
/-- list.extend of any list that is read -/
def rExtendR : V → List V → Hp → VK → Prop := fun x vs H Q => ∃ l b xs zs, x = .ref l ∧ vs = [.ref b] ∧ H l = some (.lst xs) ∧ H b = some (.lst zs) ∧ xs.length + zs.length ≤ sizeLine ∧ Q .non (upd H l (.lst (xs ++ zs)))
theorem mt_extendR : MtM X "list.extend" rExtendR := by
  intro pins s σ H x vs v us Q I rx rv h
  obtain ⟨l, b, xs, zs, rfl, rfl, hH, hB, hz, q⟩ := h
  cases rx
  obtain ⟨u, rfl, ru⟩ := rv.one
  cases ru
  obtain ⟨z, its, n, r, hl, e⟩ := I.lstM hH
  obtain ⟨z2, its2, n2, r2, e2⟩ := I.hok b _ hB
  have hl2 := r2.length
  have hsz : its.toArray.size + its2.toArray.size ≤ sizeLine := by rw [List.size_toArray, List.size_toArray]; omega
  have hlong : ¬ (!its.toArray.isEmpty && Builtin.List.listTooLong (its.toArray.size + its2.toArray.size)) = true := by
    rw [notLongL hsz, Bool.and_false]
    exact Bool.false_ne_true
  refine call_meets F.slot_list_extend ⟨_, e, rfl⟩ F.entry_list_extend (F.args_list_extend_2 _ _)
    (AutoSeq1.list_extend_list_list_0 l its.toArray n b its2.toArray n2 hlong (by rw [List.size_toArray]; omega) (by omega)) ⟨e, e2, ?_⟩
  refine ⟨.non, _, I.lset (its' := its ++ its2) hH e (by simp) (r.append r2) ?_, rfl, q⟩
  rw [List.length_append]
  omega
theorem u_ext {Γ : Tab} {o e : Expr} {o' e' : E} {ap : Pos} (ho : PEU X cad W o (wpE Γ o')) (he : PEU X cad W e (wpE Γ e')) (hbase : attributeBase o "extend" X.env (eval o X.env) = eval o X.env)
    (hfew : ((backTo pos (starEach [e] X.env)).all (fun x => !x.1) && (backToKw pos (keywordEach [] X.env)).all (fun x => x.1.isSome)
      && decide ([e].length + ([] : List Keyword).length + (if ([] : List Keyword).isEmpty then 0 else 1) < 30)) = true)
    (hline : (ap.endLine == pos.line) = true) (hs : starEach [e] X.env = (false, eval e X.env) :: starEach [] X.env) : PEU X cad W (.Call (.Attribute o "extend" ap) [e] [] pos) (wpE Γ (.ext o' e')) :=
  (pe_bm (apos := ap) (cpos := pos) PySem.F.plainAttrs_list PySem.F.slot_list_extend PySem.F.type_list_extend mt_extendR ho (pa_cons he pa_nil hs) hbase hfew hline hs rfl).mono fun σ H Qv ⟨ρ, δ, α, M, Q', X', rs, rm, t, hq, hx⟩ => by
    simp only [wpE] at t
    refine ⟨ρ, δ, α, M, _, _, rs, rm, t, fun x M1 q v H1 α1 n1 r1 m1 => ?_, hx⟩
    obtain ⟨n, xs, rfl, hm, q2⟩ := q.inv
    obtain ⟨a, rfl, hα⟩ := id r1
    obtain ⟨us, h1, h2⟩ := m1.get hα hm
    refine ⟨.inl ⟨rfl, us, SqL.of h1⟩, ρ, δ, α1, M1, _, _, rs.nx n1, m1, q2, fun y M2 q3 u H2 α2 n2 r2 m2 => ?_, fun c d M' x => (hx c d M' x).nx n1⟩
    obtain ⟨n', ys, e1, hm2, q4⟩ := q3.inv
    obtain ⟨nb, zs, rfl, hz, hlt, q5⟩ := q4.inv
    cases e1
    obtain ⟨b, rfl, hβ⟩ := r2
    obtain ⟨vs2, sq, rs2⟩ := m2.get hβ hz
    have hα2 := num_nx n2 hα
    obtain ⟨ws, k1, k2⟩ := m2.get hα2 hm2
    have nw : Nx [] α2 H2 α2 (upd H2 a (.lst (ws ++ vs2))) := Nx.write k1 (List.mem_of_getElem? hα2)
    exact ⟨a, b, ws, vs2, rfl, rfl, k1, sq, by rw [sizeLine_eq, ← k2.length, ← rs2.length]; exact hlt, hq _ _ q5 _ _ _ ((n1.trans n2).trans nw) rfl (m2.write hα2 ⟨_, upd_same, (k2.append rs2).nx nw⟩)⟩
/-- text methods of one argument -/
theorem u_m1 {Γ : Tab} {id : String} {name : Str} {o e : Expr} {o' e' : E} {ap : Pos} {E1 : E} {r : V → List V → Hp → VK → Prop} {J : Mem → D → D → DK → Prop} (slot : Slot "str" name id) (ty : typeOf (.builtin id) = pure (.type "method_descriptor")) (rule : MtR X id r)
    (hw : ∀ δ M Q Xc, wpE Γ E1 δ M Q Xc → wpE Γ o' δ M (fun x M1 => asStr x fun _ => wpE Γ e' δ M1 (fun y M2 => J M2 x y Q) Xc) Xc)
    (hj : ∀ ρ H α M (Q : DK) (Qv : VK) x y v u, RM (gx X cad) ρ H α M → RD (gx X cad) ρ H α x v → RD (gx X cad) ρ H α y u → J M x y Q → (∀ d M', Q d M' → wv (gx X cad) ρ α H Qv d M') → r v [u] H Qv)
    (ho : PEU X cad W o (wpE Γ o')) (he : PEU X cad W e (wpE Γ e')) (hs : starEach [e] X.env = [(false, eval e X.env)]) (hbase : attributeBase o name X.env (eval o X.env) = eval o X.env) (hline : (ap.endLine == pos.line) = true) :
    PEU X cad W (.Call (.Attribute o name ap) [e] [] pos) (wpE Γ E1) :=
  (pe_m1 slot ty rule ho he hs hbase hline).mono fun σ H Qv ⟨ρ, δ, α, M, Q', X', rs, rm, t, hq, hx⟩ => by
    refine ⟨ρ, δ, α, M, _, _, rs, rm, hw _ _ _ _ t, fun x M1 q v H1 α1 n1 r1 m1 => ?_, hx⟩
    obtain ⟨a, rfl, q2⟩ := q.inv
    have ev : v = .str a := r1
    subst ev
    refine ⟨⟨a, rfl⟩, ρ, δ, α1, M1, _, _, rs.nx n1, m1, q2, fun y M2 q3 u H2 α2 n2 r2 m2 => ?_, fun c d M' x => (hx c d M' x).nx n1⟩
    exact hj ρ H2 α2 M2 Q' Qv _ _ _ _ m2 (r1.nx n2) r2 q3 fun d M' z => (hq d M' z).nx (n1.trans n2)
theorem u_join {Γ : Tab} {o e : Expr} {o' e' : E} {ap : Pos} (ho : PEU X cad W o (wpE Γ o')) (he : PEU X cad W e (wpE Γ e')) (hs : starEach [e] X.env = [(false, eval e X.env)]) (hbase : attributeBase o "join" X.env (eval o X.env) = eval o X.env) (hline : (ap.endLine == pos.line) = true) :
    PEU X cad W (.Call (.Attribute o "join" ap) [e] [] pos) (wpE Γ (.join o' e')) :=
  u_m1 (J := fun M x y Q => joinD M x y fun z => Q (.str z) M) PySem.F.slot_str_join PySem.F.type_str_join mt_join (fun δ M Q Xc t => by simpa only [wpE] using t) (fun ρ H α M Q Qv x y v u rm r1 r2 c hq => by
    obtain ⟨a, ys, ss, rfl, e1, e2, hz, q⟩ := c.inv
    cases r1
    obtain ⟨b, vs, rfl, sq, rs⟩ := seq_of rm r2 e1
    have ev := strs_rds rs e2
    subst ev
    exact ⟨a, b, ss, rfl, rfl, sq, hz, hq _ _ q _ H α (Nx.refl ..) rfl rm⟩) ho he hs hbase hline
theorem u_cnt {Γ : Tab} {o e : Expr} {o' e' : E} {ap : Pos} (ho : PEU X cad W o (wpE Γ o')) (he : PEU X cad W e (wpE Γ e')) (hs : starEach [e] X.env = [(false, eval e X.env)]) (hbase : attributeBase o "count" X.env (eval o X.env) = eval o X.env) (hline : (ap.endLine == pos.line) = true) :
    PEU X cad W (.Call (.Attribute o "count" ap) [e] [] pos) (wpE Γ (.cnt o' e')) :=
  u_m1 (J := fun M x y Q => cntD x y fun z => Q (.int z) M) PySem.F.slot_str_count PySem.F.type_str_count mt_count (fun δ M Q Xc t => by simpa only [wpE] using t) (fun ρ H α M Q Qv x y v u rm r1 r2 c hq => by
    obtain ⟨a, b, rfl, rfl, q⟩ := c.inv
    cases r1; cases r2
    exact ⟨a, b, rfl, rfl, hq _ _ q _ H α (Nx.refl ..) rfl rm⟩) ho he hs hbase hline
end
end AA
/-! AA7r: turned about; an empty dict; list.pop(). -/
namespace AA
open PySem PySem.Spec L2
open PyProof.Rows hiding St
section
variable {prog : Program} {w : World} {A : Around} {E : Value → Shared → Prop} {s : Shared}
/-- the bounds of [::-1] -/
theorem back_bounds (n : Nat) : Builtin.Slice.sliceAdjust none none (-1) (n : Int) = ((n : Int) - 1, -1) := by
  unfold Builtin.Slice.sliceAdjust
  first | rfl | (simp; done) | (simp <;> omega)
theorem back_places (n : Nat) : Builtin.Slice.slicePlaces ((n : Int) - 1) (-1) (-1) = n := by
  unfold Builtin.Slice.slicePlaces
  have h1 : ¬ ((-1 : Int) > 0) := by decide
  simp only [h1, if_false]
  rw [show (- -1 : Int) = 1 by decide, Int.ediv_one]
  split <;> omega
theorem fm_same {α β : Type} {f g : α → Option β} : ∀ (l : List α), (∀ x ∈ l, f x = g x) → l.filterMap f = l.filterMap g
  | [], _ => rfl
  | x :: l, h => by
    rw [List.filterMap_cons, List.filterMap_cons, h x List.mem_cons_self, fm_same l fun y hy => h y (List.mem_cons_of_mem _ hy)]
theorem back_pick (xs : Array Value) : ((List.range xs.size).filterMap fun (m : Nat) => xs[(((xs.size : Int) - 1) + (m : Int) * (-1)).toNat]?) = xs.toList.reverse := by
  have e : ((List.range xs.size).filterMap fun (m : Nat) => xs[(((xs.size : Int) - 1) + (m : Int) * (-1)).toNat]?) = ((List.range xs.size).map fun k => xs.size - 1 - k).filterMap (xs[·]?) := by
    rw [List.filterMap_map]
    refine fm_same _ fun m hm => ?_
    have := List.mem_range.mp hm
    show xs[(((xs.size : Int) - 1) + (m : Int) * (-1)).toNat]? = xs[xs.size - 1 - m]?
    congr 1
    omega
  rw [e, PySem.W.krv_range, List.filterMap_reverse, PySem.W.krv_all]
theorem back_applied {sl : Addr} {vs : Value} {n : Nat} {Q : Int × Int × Nat → Shared → Prop} (hs : s.heap.IsSliceOf sl .none .none vs) (ps : IsPart vs (some (-1))) (h : Q ((n : Int) - 1, -1, n) s) :
    wpAny (model prog w) A (Builtin.Slice.sliceApplied (.ref sl) (pure (n : Int))) Q E s := by
  obtain ⟨o2, ho2, hc2, hd2⟩ := id hs
  unfold Builtin.Slice.sliceApplied Builtin.Slice.sliceFields
  refine wpAny_bind (wpAny_bind (wpAny_field ho2 hd2 (x := .none) rfl (wpAny_bind (wpAny_field ho2 hd2 (x := .none) rfl (wpAny_bind (wpAny_field ho2 hd2 (x := vs) rfl (wpAny_pure ?_)))))))
  refine wpAny_bind (HT.slicePart_ ps ?_)
  show wpAny _ _ (if ((-1 : Int) == 0) = true then _ else _) _ _ s
  rw [if_neg (by decide)]
  refine wpAny_bind (HT.slicePart_ .none (wpAny_bind (HT.slicePart_ .none (wpAny_bind (wpAny_pure ?_)))))
  show wpAny _ _ (match Builtin.Slice.sliceAdjust none none (-1) (n : Int) with | (lo, hi) => pure (lo, (-1 : Int), Builtin.Slice.slicePlaces lo hi (-1))) _ _ s
  rw [back_bounds n]
  show wpAny _ _ (pure ((n : Int) - 1, (-1 : Int), Builtin.Slice.slicePlaces ((n : Int) - 1) (-1) (-1))) _ _ s
  rw [back_places]
  exact wpAny_pure h
theorem item_tup_back {t sl : Addr} {items : Array Value} {vs : Value} {Q : Value → Shared → Prop} (ht : IsTup s.heap t items) (hs : s.heap.IsSliceOf sl .none .none vs) (ps : IsPart vs (some (-1)))
    (h : Q (.ref s.heap.objs.size) { s with heap := s.heap.push { cls := .type "tuple", data := .seq items.toList.reverse.toArray } }) (few : items.size ≤ sizeLine) : wpAny (model prog w) A (getItem (.ref t) (.ref sl)) Q E s := by
  have okz : sizeOk (.seq items.toList.reverse.toArray) := by
    show items.toList.reverse.toArray.size ≤ sizeLine
    rw [List.size_toArray, List.length_reverse, Array.length_toList]
    exact few
  obtain ⟨o2, ho2, hc2, hd2⟩ := id hs
  have tyS : s.TypeIs (.ref sl) "slice" := ⟨o2, ho2, hc2⟩
  unfold getItem
  try with_reducible refine wpAny_holding ?_
  first | refine wpAny_bind (wpAny_pure ?_) | skip
  refine wpAny_bind (wpAny_sequenceKey ht.typeIs (by decide) ?_)
  refine wpAny_bind (wpAny_callSpecial?_slot (name := Str.ofString "__getitem__") ht.typeIs PyProof.Rows.slot_tuple_getitem (wpAny_call_entry PyProof.Rows.slot_tuple_getitem ht.typeIs entry_tuple_getitem ?_ (args_tuple_getitem _ _)))
  show wpAny _ _ (Builtin.Tuple.tupleItemsOf (.ref t) >>= _) _ _ s
  refine wpAny_bind (tupleItemsOf_ ht (wpAny_bind (wpAny_typeOf tyS ?_)))
  rw [if_pos (by decide)]
  refine wpAny_bind (back_applied hs ps ?_)
  have no : ¬ ((((items.size : Int) - 1) == 0 && (-1 : Int) == 1 && items.size == items.size) = true) := by simp
  show wpAny _ _ (if (((items.size : Int) - 1) == 0 && (-1 : Int) == 1 && items.size == items.size) = true then _ else _) _ _ s
  rw [if_neg no, back_pick]
  first
    | exact wpAny_bind (m := Builtin.Tuple.tupleExact _) (wpAny_newObj_type (wpAny_pure ⟨_, rfl, wpAny_pure h⟩) okz)
    | exact wpAny_bind (m := Builtin.Tuple.tupleExact _) (wpAny_newObj_type (wpAny_bind (wpAny_pure (wpAny_pure ⟨_, rfl, wpAny_pure h⟩))) okz)
    | exact wpAny_bind (wpAny_bind (m := Builtin.Tuple.tupleExact _) (wpAny_newObj_type (wpAny_pure (wpAny_pure ⟨_, rfl, wpAny_pure h⟩)) okz))
    | exact wpAny_bind (wpAny_bind (m := Builtin.Tuple.tupleExact _) (wpAny_newObj_type (wpAny_pure ⟨_, rfl, wpAny_pure h⟩) okz))
end
section
variable {X : Cx} {cad : Cad} {W : WX} {pos : Pos}
/-- t[::-1] of a tuple -/
def tRevT (K : PySem.W.Frag) (te : TE) : TE := fun σ H Q => te σ H fun x H1 => ∃ a xs, x = .ref a ∧ SqT K H1 a xs ∧ ∀ p, H1 p = none → Q (.ref p) (upd H1 p (.tup xs.reverse))
theorem pe_revT {e : Expr} {te : TE} {k : Nat} {p1 p2 p3 : Pos} (he : PE X e te) : PE X (.Subscript e (.Slice none none (some (.UnaryOp .USub (.Constant (.int 1) k p1) p2)) p3) pos) (tRevT X.K te) := by
  refine ⟨fun pins s σ H Q I h => Subscript_ (thn (he.run pins s σ H _ I h) fun v s1 ⟨x, H1, I1, r1, a, xs, ex, hx, q⟩ => ?_)⟩
  subst ex
  cases r1
  have step : PO X (some (.UnaryOp .USub (.Constant (.int 1) k p1) p2)) (tPart (tUn (rU fun i => .int (-i)) (tC (.int 1)))) := po_some (pe_un un_neg pe_int)
  refine wpAny_Slice (thn (po_none.run pins s1 σ H1 (fun o H2 => o = none ∧ H2 = H1) I1 ⟨rfl, rfl⟩) fun u1 s2 ⟨o1, H2, I2, g1, e1, f1⟩ => ?_)
  subst e1 f1
  refine thn (po_none.run pins s2 σ H2 (fun o H3 => o = none ∧ H3 = H2) I2 ⟨rfl, rfl⟩) fun u2 s3 ⟨o2, H3, I3, g2, e2, f2⟩ => ?_
  subst e2 f2
  refine thn (step.run pins s3 σ H3 (fun o H4 => o = some (-1) ∧ H4 = H3) I3 ⟨1, rfl, -1, rfl, rfl, rfl⟩) fun u3 s4 ⟨o3, H4, I4, g3, e3, f3⟩ => ?_
  subst e3 f3
  cases g1
  cases g2
  have I5 : Inv X pins σ H4 { s4 with heap := s4.heap.push { cls := .type "slice", data := .fields #[.none, .none, u3] } } := I4.kept (t' := s4.toks) fun b ob q => Heap.get?_push_of_some _ q
  obtain ⟨its, r, ht, hz⟩ := I5.tuple hx
  show wpAny (model X.prog X.w) X.A (subscriptTail e (.Slice none none (some (.UnaryOp .USub (.Constant (.int 1) k p1) p2)) p3) (.ref a) (.ref s4.heap.objs.size)) (EP X pins σ Q) X.xe { s4 with heap := s4.heap.push { cls := .type "slice", data := .fields #[.none, .none, u3] } }
  refine tail_any (ops := [.ref a, .ref s4.heap.objs.size]) ht.typeIs PyProof.Rows.slot_tuple_getitem.lookup ?_ (by with_unfolding_all rfl)
  have hlen := r.length
  refine item_tup_back ht (Heap.IsSliceOf.new _ .none .none u3) g3 ?_ (by rw [List.size_toArray]; omega)
  refine ⟨.ref _, _, I5.laid (t' := s4.toks) (o := .tup xs.reverse) (fun b ob q => Heap.get?_push_of_some _ q) (Nat.le_refl _) ?_, rfl, q _ (I5.hok.fresh (Nat.le_refl _))⟩
  exact ⟨by rw [List.length_reverse]; exact hz, _, r.reverse, IsTup.new _ _⟩
theorem RDs.reverse {G : Gm} {ρ α : List Addr} {H : Hp} : ∀ {ds : List D} {vs : List V}, RDs G ρ H α ds vs → RDs G ρ H α ds.reverse vs.reverse
  | [], vs, h => by rw [show vs = [] from h]; exact RDs.nil
  | d :: ds, vs, h => by
    obtain ⟨v, vs', rfl, r, rs⟩ := h
    rw [List.reverse_cons, List.reverse_cons]
    exact (RDs.reverse rs).append (RDs.cons r .nil)
theorem u_rev {Γ : Tab} {a : Expr} {a' : E} {k : Nat} {p1 p2 p3 : Pos} (ha : PEU X cad W a (wpE Γ a')) : PEU X cad W (.Subscript a (.Slice none none (some (.UnaryOp .USub (.Constant (.int 1) k p1) p2)) p3) pos) (wpE Γ (.rev a')) :=
  (pe_revT (pos := pos) ha).mono fun σ H Qv ⟨ρ, δ, α, M, Q', X', rs, rm, t, hq, hx⟩ => by
    simp only [wpE] at t
    refine ⟨ρ, δ, α, M, _, _, rs, rm, t, fun x M1 q v H1 α1 n1 r1 m1 => ?_, hx⟩
    unfold revD at q
    split at q <;> try contradiction
    rename_i xs
    obtain ⟨b, vs, rfl, t1, rs1⟩ := r1
    exact ⟨b, vs, rfl, t1.sqt, fun p hp => new_tup m1 rs1.reverse q (fun d M' z => (hq d M' z).nx n1) p hp⟩
theorem u_dic0 {Γ : Tab} : PEU X cad W (.Dict [] [] pos) (wpE Γ .dic0) :=
  (pe_dnewK (pos := pos)).mono fun σ H Qv ⟨ρ, δ, α, M, Q', X', rs, rm, t, hq, hx⟩ => by
    simp only [wpE] at t
    intro p hp
    have np : p ∉ α := fun z => by obtain ⟨o, e⟩ := rm.mem z; rw [hp] at e; cases e
    exact hq _ _ t _ _ α (Nx.new hp) ⟨p, rfl, np, fun z => rm.rho p z (.inl hp), .inl upd_same⟩ (rm.new hp)
end
end AA
/-! AA7s: list.pop; lists turned about and put together; sorted(set(a list)). -/
namespace AA
open PySem PySem.Spec L2
open PyProof.Rows hiding St

/-! ### set(a list of ints), its table known -/
/-- a set as it is born -/
abbrev bornSet (w : World) : Obj := { cls := .type "set", dict := none, data := .set #[] 0 (.fresh 0 0 (!w.params.followText "set-order")) }
section
variable {P : Program} {w : World} {A : Around} {E : Value → Shared → Prop} {s : Shared}
set_option maxHeartbeats 16000000 in
theorem set_of_list {ad : Addr} {its : Array Value} (zs : List Int) {Qs : Value → Shared → Prop} (calm : A.handled = none) (isL : s.heap.IsList ad its) (are : IntsAre its.toList zs) (few : zs.length + 1 < scanBound)
    (done : ∀ (hp : Heap) (tks k : Nat), SetR w hp s.heap.objs.size (fun j => decide (j ∈ zs)) k → k ≤ zs.length → (∀ b o, s.heap.get? b = some o → hp.get? b = some o) → Qs (.ref s.heap.objs.size) { s with heap := hp, toks := tks }) :
    wpAny (model P w) A (call (.type "set") [.ref ad]) Qs E s := by
  have sz : its.size = zs.length := (Array.length_toList (xs := its)).symm.trans are.length
  obtain ⟨c, tl, hmro⟩ := show _ from F.called_set.mro
  have hmade := show _ from F.called_set.made
  have hsub := show _ from F.called_set.sub
  refine wpAny_call (codeAny_of_tree ?_)
  change wpAny _ _ (callAny (.type "set") _) _ _ _
  refine (wpAny_pure ⟨Code.quiet_builtin _ (by decide +kernel), (codeAny_builtin F.entry_type_call ?_)⟩)
  rw [(Around.under_plain (weight_type_call_type "set" [.ref ad] []) rfl)]
  have h1 := show _ from F.called_set.notType
  have h2 := show _ from F.called_set.canCreate
  have hct := show _ from F.typeCall_set_1 (.ref ad)
  repeat (any_goals first | assumption | wp_step)
  refine (codeAny_mono (code_set_led1 (E := E) (.ref ad) (Q₁ := fun ob t => ob = .ref s.heap.objs.size ∧ t = { s with heap := s.heap.push (bornSet w) }) ⟨rfl, rfl⟩) fun ra sa ha => ?_)
  match ra, ha with
  | .error e, ha => exact ha
  | .ok .next, ha => exact ha.elim
  | .ok .brk, ha => exact ha.elim
  | .ok .cont, ha => exact ha.elim
  | .ok (.ret ob), ha =>
    obtain ⟨rfl, rfl⟩ := ha
    have born : (s.heap.push (bornSet w)).get? s.heap.objs.size = some (bornSet w) := Heap.get?_push_size _ rfl
    have tyB : Shared.TypeIs { s with heap := s.heap.push (bornSet w) } (.ref s.heap.objs.size) "set" := ⟨_, born, rfl⟩
    have hli := show _ from F.called_set.init.lookup
    have hbi := show _ from F.called_set.init.bind (.ref s.heap.objs.size)
    repeat (any_goals first | assumption | wp_step)
    refine (codeAny_mono (codeAny_call_builtin (R := wants (fun r t => r = .none ∧ ∃ hp tks k, t = { s with heap := hp, toks := tks } ∧ SetR w hp s.heap.objs.size (fun j => decide (j ∈ zs)) k ∧ k ≤ zs.length ∧ (∀ b o, s.heap.get? b = some o → hp.get? b = some o)) E)
      F.called_set.init.plain F.entry_set_init (check_set_init_1 tyB ?_)) fun rb sb hb => ?_)
    · obtain ⟨ol, eol, ecl, nl, edl⟩ := isL
      obtain ⟨c0, d0, dat0, sl0⟩ := ol
      simp only at ecl edl
      subst ecl
      subst edl
      have eol1 : (s.heap.push (bornSet w)).get? ad = some { cls := .type "list", dict := d0, data := .seq its nl, slots := sl0 } := Heap.get?_push_of_some _ eol
      have hsls := show _ from F.sub_list_set
      have hslf := show _ from F.sub_list_frozenset
      have hne : (Value.type "list" == Value.type "dict") = false := by decide
      have isL1 : (s.heap.push (bornSet w)).IsList ad its := ⟨_, eol1, rfl, nl, rfl⟩
      unfold Builtin.«set.__init__» noKeywords Builtin.Frozenset.updateFrom
      generalize eqI : pyIter = PI
      wp_walk
      subst eqI
      refine wpAny_pyIter_list isL1 (wpAny_bind (wpAny_runValue ?_))
      have ltA : ad < s.heap.objs.size := Heap.lt_size eol
      have calm3 : A.in1.in1.in1.handled = none := by simp [calm]
      have szP : (s.heap.push (bornSet w)).objs.size = s.heap.objs.size + 1 := Heap.size_push ..
      have neA : ad ≠ (s.heap.push (bornSet w)).objs.size := by rw [szP]; exact Nat.ne_of_lt (Nat.lt_succ_of_lt ltA)
      have outS : s.heap.objs.size ∉ [(s.heap.push (bornSet w)).objs.size, ad] := by
        rw [szP]
        simp only [List.mem_cons, List.not_mem_nil, or_false, not_or]
        exact ⟨Nat.ne_of_lt (Nat.lt_succ_self _), fun z => Nat.lt_irrefl _ (by rw [← z] at ltA; exact ltA)⟩
      have entI : ∀ (i : Nat) (v : Value), its[i]? = some v → ∃ k t, zs[i]? = some k ∧ v = .int k t := fun i v hv => by
        have lt : i < zs.length := by rw [← sz]; exact (Array.getElem?_eq_some_iff.mp hv).1
        obtain ⟨t, ev⟩ := are.int_at i v (by rw [Array.getElem?_toList]; exact hv)
        exact ⟨zs[i], t, List.getElem?_eq_getElem lt, by rw [ev, List.getD_eq_getElem?_getD, List.getElem?_eq_getElem lt] <;> rfl⟩
      refine set_update_ints ((Walks.list calm3 _ ad neA its).toS) s.heap.objs.size outS zs sz few entI (its.size - 0) 0 _ (by omega) (Nat.zero_le _) ⟨⟨_, Heap.get?_push_size _ rfl, rfl, rfl⟩, isL1.push _⟩ ?_ ?_
      · exact ⟨0, Nat.le_refl 0, setR_new_at (Heap.get?_push_of_some _ born)⟩
      · intro t k moved hk isR
        obtain ⟨hp, g2, d2, tk2, os2⟩ := t
        obtain rfl : g2 = s.gens := moved.gens
        obtain rfl : d2 = s.drawn := moved.drawn
        obtain rfl : os2 = s.os := moved.os
        change wpAny _ _ _ _ _ _
        refine wpAny_pure ?_
        change wpAny _ _ (ret Value.none) _ _ _
        rw [sz] at hk
        refine wpAny_pure ⟨rfl, hp, tk2, k, rfl, isR, hk, fun b o e => ?_⟩
        have lb : b < s.heap.objs.size := Heap.lt_size e
        refine moved.heap b o (fun z => ?_) (Heap.get?_push_of_some _ (Heap.get?_push_of_some _ e))
        rcases List.mem_cons.mp z with z | z
        · exact Nat.lt_irrefl _ (by rw [z] at lb; exact lb)
        · rw [List.mem_singleton.mp z] at lb
          exact Nat.lt_irrefl _ (Nat.lt_trans (Nat.lt_succ_self _) (by rw [szP] at lb; exact lb))
    · match rb, hb with
      | .error e, hb => exact hb
      | .ok .next, hb => exact hb.elim
      | .ok .brk, hb => exact hb.elim
      | .ok .cont, hb => exact hb.elim
      | .ok (.ret r), hb =>
        obtain ⟨rfl, hp, tks, k, rfl, isR, hk, kp⟩ := hb
        repeat (any_goals first | assumption | wp_step)
        exact done _ _ _ isR hk kp
end

/-! ### the rules -/
section
variable {X : Cx} {cad : Cad} {W : WX} {pos : Pos}
/-- l[::-1] of a list -/
def tRevL (K : PySem.W.Frag) (te : TE) : TE := fun σ H Q => te σ H fun x H1 => ∃ a xs, x = .ref a ∧ SqL K H1 a xs ∧ ∀ p, H1 p = none → Q (.ref p) (upd H1 p (.lst xs.reverse))
theorem pe_revL {e : Expr} {te : TE} {k : Nat} {p1 p2 p3 : Pos} (he : PE X e te) : PE X (.Subscript e (.Slice none none (some (.UnaryOp .USub (.Constant (.int 1) k p1) p2)) p3) pos) (tRevL X.K te) := by
  refine ⟨fun pins s σ H Q I h => Subscript_ (thn (he.run pins s σ H _ I h) fun v s1 ⟨x, H1, I1, r1, a, xs, ex, hx, q⟩ => ?_)⟩
  subst ex
  cases r1
  have step : PO X (some (.UnaryOp .USub (.Constant (.int 1) k p1) p2)) (tPart (tUn (rU fun i => .int (-i)) (tC (.int 1)))) := po_some (pe_un un_neg pe_int)
  refine wpAny_Slice (thn (po_none.run pins s1 σ H1 (fun o H2 => o = none ∧ H2 = H1) I1 ⟨rfl, rfl⟩) fun u1 s2 ⟨o1, H2, I2, g1, e1, f1⟩ => ?_)
  subst e1 f1
  refine thn (po_none.run pins s2 σ H2 (fun o H3 => o = none ∧ H3 = H2) I2 ⟨rfl, rfl⟩) fun u2 s3 ⟨o2, H3, I3, g2, e2, f2⟩ => ?_
  subst e2 f2
  refine thn (step.run pins s3 σ H3 (fun o H4 => o = some (-1) ∧ H4 = H3) I3 ⟨1, rfl, -1, rfl, rfl, rfl⟩) fun u3 s4 ⟨o3, H4, I4, g3, e3, f3⟩ => ?_
  subst e3 f3
  cases g1
  cases g2
  have I5 : Inv X pins σ H4 { s4 with heap := s4.heap.push { cls := .type "slice", data := .fields #[.none, .none, u3] } } := I4.kept (t' := s4.toks) fun b ob q => Heap.get?_push_of_some _ q
  obtain ⟨its, r, pl, hz⟩ := I5.list hx
  have hlen := r.length
  show wpAny (model X.prog X.w) X.A (subscriptTail e (.Slice none none (some (.UnaryOp .USub (.Constant (.int 1) k p1) p2)) p3) (.ref a) (.ref s4.heap.objs.size)) (EP X pins σ Q) X.xe { s4 with heap := s4.heap.push { cls := .type "slice", data := .fields #[.none, .none, u3] } }
  refine tail_any (ops := [.ref a, .ref s4.heap.objs.size]) pl.isList.typeIs slot_list_getitem.lookup ?_ (by with_unfolding_all rfl)
  refine wpAny_getItem_list_slice pl.isList (Heap.IsSliceOf.new _ .none .none u3) .none .none g3 (by decide) ?_ (by rw [List.size_toArray, ← hlen]; exact hz)
  rw [PySem.W.krv_pick]
  refine ⟨.ref _, _, I5.laid (t' := s4.toks) (o := .lst xs.reverse) (fun b ob q => Heap.get?_push_of_some _ q) (Nat.le_refl _) ?_, rfl, q _ (I5.hok.fresh (Nat.le_refl _))⟩
  exact ⟨by rw [List.length_reverse]; exact hz, _, _, r.reverse, Heap.get?_push_size _ rfl⟩
theorem u_revm {Γ : Tab} {a : Expr} {a' : E} {k : Nat} {p1 p2 p3 : Pos} (ha : PEU X cad W a (wpE Γ a')) : PEU X cad W (.Subscript a (.Slice none none (some (.UnaryOp .USub (.Constant (.int 1) k p1) p2)) p3) pos) (wpE Γ (.revm a')) :=
  (pe_revL (pos := pos) ha).mono fun σ H Qv ⟨ρ, δ, α, M, Q', X', rs, rm, t, hq, hx⟩ => by
    simp only [wpE] at t
    refine ⟨ρ, δ, α, M, _, _, rs, rm, t, fun x M1 q v H1 α1 n1 r1 m1 => ?_, hx⟩
    obtain ⟨xs, e, q2⟩ := q.inv
    obtain ⟨b, vs, rfl, sq, rs1⟩ := lst_of m1 r1 e
    exact ⟨b, vs, rfl, sq, fun p hp => new_num m1 rs1.reverse q2 (fun d M' z => (hq d M' z).nx n1) p hp⟩
/-- sorted(set(a)) -/
theorem u_sset {Γ : Tab} {a : Expr} {a' : E} {p p2 q : Pos} (hc : X.calm = true) (hg : Gl X "sorted") (hm : X.mg "sorted" = none) (hg2 : Gl X "set") (hm2 : X.mg "set" = none) (ha : PEU X cad W a (wpE Γ a'))
    (na : starEach [a] X.env = (false, eval a X.env) :: starEach [] X.env) : PEU X cad W (.Call (.Name "sorted" p) [.Call (.Name "set" p2) [a] [] q] [] pos) (wpE Γ (.sset a')) := by
  refine ⟨fun pins s σ H Qv I ⟨ρ, δ, α, M, Q', X', rs, rm, t, hq, hx⟩ => ?_⟩
  simp only [wpE] at t
  refine Call_ (ld_blt I hg hm boot_sorted ?_)
  refine PyProof.Rows.callWith_builtin1 (PyProof.Rows.args_cons ?_ rfl) rfl rfl
  refine Call_ (ld_blt I hg2 hm2 PyProof.Rows.boot_set ?_)
  refine PyProof.Rows.callWith_type1 (PyProof.Rows.args_cons (thn (ha.run pins s σ H (fun x H1 => ∃ (l : Addr) (is : List Int), x = .ref l ∧ SqL X.K H1 l (is.map V.int) ∧ is.length ≤ 60 ∧ ∀ js : List Int, js.Pairwise (· < ·) → (∀ k : Int, k ∈ js ↔ k ∈ is) → ∀ p, H1 p = none → Qv (.ref p) (upd H1 p (.lst (js.map V.int)))) I
    ⟨ρ, δ, α, M, _, _, rs, rm, t, fun x M1 q v H1 α1 n1 r1 m1 => ?_, hx⟩) fun v s1 ⟨x, H1, I1, r1, q1⟩ => PyProof.Rows.args_nil ?_) na) na rfl
  · obtain ⟨xs, e, q2⟩ := q.inv
    obtain ⟨is, e2, hl, q3⟩ := q2.inv
    obtain ⟨b, vs, rfl, sq, rs1⟩ := lst_of m1 r1 e
    have ev := ints_rds rs1 e2
    subst ev
    exact ⟨b, is, rfl, sq, hl, fun js h1 h2 p hp => new_lst m1 (RDs.of_ints js) (q3 js h1 h2) (fun d M' z => (hq d M' z).nx n1) p hp⟩
  · obtain ⟨l, is, rfl, sq, hl, q2⟩ := q1
    cases r1
    obtain ⟨its, r, pl, hz⟩ := I1.list sq
    refine set_of_list is (I1.ok.hd hc) pl.isList (by simpa using r.ints) (by unfold scanBound; omega) fun h' tk k isR hk kp => PyProof.Rows.args_nil ?_
    have I2 : Inv X pins σ H1 { s1 with heap := h', toks := tk } := I1.kept kp
    refine sorted_set isR (I2.ok.hd hc) (by omega) fun s' p out c ns k2 g o hp hgp hi hs hmem hln => ?_
    have hlen : (ns.map V.int).length ≤ sizeLine := by rw [List.length_map, hln, sizeLine_eq]; omega
    have hn : H1 p = none := I2.hok.fresh hp
    have J : Inv X pins σ (upd H1 p (.lst (ns.map V.int))) { ({ s1 with heap := h', toks := tk } : Shared) with heap := s'.heap, gens := s'.gens, drawn := s'.drawn, toks := s'.toks } :=
      I2.call (ch := []) (Un.laid k2 hp hn) (I2.hok.laid k2 hp ⟨hlen, out.toList, c, vals_of_ints hi, hgp⟩) (by rw [g]; exact I2.bare) (fun _ z => nomatch z)
    have e : s' = { ({ s1 with heap := h', toks := tk } : Shared) with heap := s'.heap, gens := s'.gens, drawn := s'.drawn, toks := s'.toks } := by
      cases s'
      cases s1
      cases o
      rfl
    rw [e]
    exact ⟨.ref p, _, J, rfl, q2 ns hs (fun j => (hmem j).trans decide_eq_true_iff) p hn⟩
/-- list.pop() -/
theorem u_pop {Γ : Tab} {o : Expr} {o' : E} {ap : Pos} (ho : PEU X cad W o (wpE Γ o')) (hbase : attributeBase o "pop" X.env (eval o X.env) = eval o X.env) (hline : (ap.endLine == pos.line) = true) : PEU X cad W (.Call (.Attribute o "pop" ap) [] [] pos) (wpE Γ (.pop o')) :=
  (pe_bm0 (apos := ap) (cpos := pos) PySem.F.plainAttrs_list PySem.F.slot_list_pop PySem.F.type_list_pop mt_pop ho hbase hline).mono fun σ H Qv ⟨ρ, δ, α, M, Q', X', rs, rm, t, hq, hx⟩ => by
    simp only [wpE] at t
    refine ⟨ρ, δ, α, M, _, _, rs, rm, t, fun x M1 q v H1 α1 n1 r1 m1 => ?_, hx⟩
    obtain ⟨n, xs, rfl, hm, q2⟩ := q.inv
    obtain ⟨y, hy, q3⟩ := q2.inv
    obtain ⟨a, rfl, hα⟩ := id r1
    obtain ⟨us, h1, h2⟩ := m1.get hα hm
    have hy2 : xs[xs.length - 1]? = some y := by rw [← List.getLast?_eq_getElem?]; exact hy
    obtain ⟨u, hu, ru⟩ := h2.get hy2
    have nw : Nx [] α1 H1 α1 (upd H1 a (.lst us.dropLast)) := Nx.write h1 (List.mem_of_getElem? hα)
    refine ⟨.inl ⟨rfl, us, SqL.of h1⟩, a, us, u, rfl, rfl, h1, by rw [← h2.length]; exact hu, ?_⟩
    refine hq _ _ q3 _ _ _ (n1.trans nw) (ru.nx nw) (m1.write hα ⟨_, upd_same, ?_⟩)
    have cut : RDs (gx X cad) ρ H1 α1 (xs.take (us.length - 1)) (us.take (us.length - 1)) := h2.take _
    rw [List.dropLast_eq_take, List.dropLast_eq_take, h2.length]
    rw [List.dropLast_eq_take] at nw
    exact cut.nx nw
theorem RDs.erase {G : Gm} {H : Hp} {ρ α : List Addr} : ∀ {ds : List D} {vs : List V} (n : Nat), RDs G ρ H α ds vs → RDs G ρ H α (ds.eraseIdx n) (vs.eraseIdx n)
  | [], vs, n, h => by rw [show vs = [] from h]; simp; exact RDs.nil
  | d :: ds, vs, 0, h => by
    obtain ⟨v, vs', rfl, r, rs⟩ := h
    simpa using rs
  | d :: ds, vs, n + 1, h => by
    obtain ⟨v, vs', rfl, r, rs⟩ := h
    simpa using RDs.cons r (RDs.erase n rs)
/-- list.pop(i) -/
theorem u_popi {Γ : Tab} {o e : Expr} {o' e' : E} {ap : Pos} (ho : PEU X cad W o (wpE Γ o')) (he : PEU X cad W e (wpE Γ e')) (hbase : attributeBase o "pop" X.env (eval o X.env) = eval o X.env)
    (hfew : ((backTo pos (starEach [e] X.env)).all (fun x => !x.1) && (backToKw pos (keywordEach [] X.env)).all (fun x => x.1.isSome)
      && decide ([e].length + ([] : List Keyword).length + (if ([] : List Keyword).isEmpty then 0 else 1) < 30)) = true)
    (hline : (ap.endLine == pos.line) = true) (hs : starEach [e] X.env = (false, eval e X.env) :: starEach [] X.env) : PEU X cad W (.Call (.Attribute o "pop" ap) [e] [] pos) (wpE Γ (.popi o' e')) :=
  (pe_bm (apos := ap) (cpos := pos) PySem.F.plainAttrs_list PySem.F.slot_list_pop PySem.F.type_list_pop mt_popAt ho (pa_cons he pa_nil hs) hbase hfew hline hs rfl).mono fun σ H Qv ⟨ρ, δ, α, M, Q', X', rs, rm, t, hq, hx⟩ => by
    simp only [wpE] at t
    refine ⟨ρ, δ, α, M, _, _, rs, rm, t, fun x M1 q v H1 α1 n1 r1 m1 => ?_, hx⟩
    obtain ⟨n, xs, rfl, hm, q2⟩ := q.inv
    obtain ⟨a, rfl, hα⟩ := id r1
    obtain ⟨us, h1, h2⟩ := m1.get hα hm
    refine ⟨.inl ⟨rfl, us, SqL.of h1⟩, ρ, δ, α1, M1, _, _, rs.nx n1, m1, q2, fun z M2 q3 u H2 α2 n2 r2 m2 => ?_, fun c d M' x => (hx c d M' x).nx n1⟩
    obtain ⟨n', ys, e1, hm2, q4⟩ := q3.inv
    cases e1
    obtain ⟨j, rfl, j0, j1, jz, q5⟩ := q4.inv
    cases r2
    have hα2 := num_nx n2 hα
    obtain ⟨ws, k1, k2⟩ := m2.get hα2 hm2
    have jl : j.toNat < ys.length := by omega
    obtain ⟨w, hw, rw'⟩ := k2.get (List.getElem?_eq_getElem jl)
    have nw : Nx [] α2 H2 α2 (upd H2 a (.lst (ws.eraseIdx j.toNat))) := Nx.write k1 (List.mem_of_getElem? hα2)
    refine ⟨a, ws, j, j.toNat, w, rfl, rfl, k1, by omega, by omega, ?_, hw, ?_⟩
    · have : ws.length = ys.length := k2.length.symm
      unfold seqIndex?
      rw [this]
      first | (simp only [j0, j1, if_true, and_self, ge_iff_le]; done) | (simp; omega)
    · exact hq _ _ (q5 _ (List.getElem?_eq_getElem jl)) _ _ _ ((n1.trans n2).trans nw) (rw'.nx nw) (m2.write hα2 ⟨_, upd_same, (k2.erase _).nx nw⟩)
/-- list + list -/
theorem u_catl {Γ : Tab} {m : Bool} {a b : Expr} {a' b' : E} (ha : PEU X cad W a (wpE Γ a')) (hb : PEU X cad W b (wpE Γ b')) : PEU X cad W (.BinOp a .Add b pos) (wpE Γ (.catl m a' b')) := by
  have q := (pe_op (pos := pos) op_cat ha hb).mono (tOp_up (G := gx X cad) (W := W) (R := fun x y M Q => numL M x fun _ xs => numL M y fun _ ys => xs.length + ys.length ≤ 16777216 ∧ if m = true then Q (.ref M.length) (M ++ [.lst (xs ++ ys)]) else Q (.lst (xs ++ ys)) M)
    fun ρ H α M Q Qv x y v u rm r1 r2 b hq => by
      obtain ⟨i, xs, rfl, h1, b1⟩ := b.inv
      obtain ⟨j, ys, rfl, h2, hl, b2⟩ := b1.inv
      obtain ⟨l, rfl, hα⟩ := id r1
      obtain ⟨l2, rfl, hα2⟩ := id r2
      obtain ⟨us, k1, g1⟩ := rm.get hα h1
      obtain ⟨ws, k2, g2⟩ := rm.get hα2 h2
      refine ⟨l, l2, us, ws, rfl, rfl, k1, k2, by rw [sizeLine_eq, ← g1.length, ← g2.length]; exact hl, fun p hp => ?_⟩
      cases m with
      | true => exact new_num rm (g1.append g2) (by simpa using b2) hq p hp
      | false => exact new_lst rm (g1.append g2) (by simpa using b2) hq p hp)
  simpa only [wpE] using q
/-- len(set(a)), nothing twice -/
theorem u_lenset {Γ : Tab} {a : Expr} {a' : E} {p p2 q : Pos} (hc : X.calm = true) (hg : Gl X "len") (hm : X.mg "len" = none) (hg2 : Gl X "set") (hm2 : X.mg "set" = none) (ha : PEU X cad W a (wpE Γ a'))
    (na : starEach [a] X.env = (false, eval a X.env) :: starEach [] X.env) : PEU X cad W (.Call (.Name "len" p) [.Call (.Name "set" p2) [a] [] q] [] pos) (wpE Γ (.lenset a')) := by
  refine ⟨fun pins s σ H Qv I ⟨ρ, δ, α, M, Q', X', rs, rm, t, hq, hx⟩ => ?_⟩
  simp only [wpE] at t
  refine Call_ (ld_blt I hg hm PySem.boot_len ?_)
  refine PyProof.Rows.callWith_builtin1 (PyProof.Rows.args_cons ?_ rfl) rfl rfl
  refine Call_ (ld_blt I hg2 hm2 PyProof.Rows.boot_set ?_)
  refine PyProof.Rows.callWith_type1 (PyProof.Rows.args_cons (thn (ha.run pins s σ H (fun x H1 => ∃ (l : Addr) (is : List Int), x = .ref l ∧ SqL X.K H1 l (is.map V.int) ∧ is.Nodup ∧ is.length ≤ 4000 ∧ Qv (.int (is.length : Nat)) H1) I
    ⟨ρ, δ, α, M, _, _, rs, rm, t, fun x M1 q v H1 α1 n1 r1 m1 => ?_, hx⟩) fun v s1 ⟨x, H1, I1, r1, q1⟩ => PyProof.Rows.args_nil ?_) na) na rfl
  · obtain ⟨xs, e, q2⟩ := q.inv
    obtain ⟨is, e2, hnd, hl, q3⟩ := q2.inv
    obtain ⟨b, vs, rfl, sq, rs1⟩ := lst_of m1 r1 e
    have ev := ints_rds rs1 e2
    subst ev
    exact ⟨b, is, rfl, sq, hnd, hl, hq _ _ q3 _ _ _ n1 rfl m1⟩
  · obtain ⟨l, is, rfl, sq, hnd, hl, q2⟩ := q1
    cases r1
    obtain ⟨its, r, pl, hz⟩ := I1.list sq
    have len : its.toArray.size = is.length := by rw [List.size_toArray, ← r.length, List.length_map]
    refine call_set_list (I1.ok.hd hc) pl.isList (ns := is) (by simpa using r.ints) (by unfold scanBound; omega) fun h' tk isR kp => ?_
    rw [len, RZ.firstMet_nodup hnd is.length (Nat.le_refl _), List.take_length] at isR
    refine PyProof.Rows.args_nil ?_
    obtain ⟨o, es, ep, t, h1, h2, h3, _, _, _, h4, h5⟩ := isR
    have I2 : Inv X pins σ H1 { s1 with heap := h', toks := tk } := I1.kept fun b o e => kp b o (Heap.lt_size e) e
    exact call_len_set h1 h2 h3 h4 (by rw [h5] <;> omega) ⟨.int (is.length : Nat), H1, I2.tok _, ⟨_, by rw [h5]⟩, q2⟩
end
end AA
/-! AA7i: instances: attributes, methods, properties, makes; split, tuple(range), isinstance. -/
namespace AA
open PySem PySem.Spec L2
open PyProof.Rows hiding St
section
variable {X : Cx} {cad : Cad} {W : WX} {pos : Pos}
/-- the plain attributes of classes -/
def AtsOk (K : PySem.W.Frag) (cad : Cad) (ats : List (Nat × Str)) : Prop := ∀ p ∈ ats, Cls K (cad p.1) ∧ NoAttr K (cad p.1) p.2
theorem u_attr {Γ : Tab} {a : Expr} {a' : E} {x : Str} (hA : AtsOk X.K cad Γ.ats) (ha : PEU X cad W a (wpE Γ a')) (hb : attributeBase a x X.env (eval a X.env) = eval a X.env) : PEU X cad W (.Attribute a x pos) (wpE Γ (.attr a' x)) := by
  refine (pe_fld (pos := pos) ha hb).mono fun σ H Qv ⟨ρ, δ, α, M, Q', X', rs, rm, t, hq, hx⟩ => ?_
  simp only [wpE] at t
  refine ⟨ρ, δ, α, M, _, _, rs, rm, t, fun d M1 q v H1 α1 n1 r1 m1 => ?_, hx⟩
  obtain ⟨n, c, fs, e, rfl, hm, hc, hl, q'⟩ := q.inv
  obtain ⟨b, rfl, hα⟩ := r1
  obtain ⟨dx, ws, h1, h2, h3⟩ := m1.get hα hm
  obtain ⟨c1, c2⟩ := hA _ hc
  rcases look_rel x h2 h3 with ⟨e1, _⟩ | ⟨d', v', e1, e2, r2⟩
  · rw [hl] at e1; cases e1
  · rw [hl] at e1; cases e1
    exact ⟨b, _, dx, ws, v', rfl, h1, c1, c2, e2, hq _ _ q' _ _ _ n1 r2 m1⟩
theorem s_sattr {Γ : Tab} {o e : Expr} {o' e' : E} {x : Str} {p : Pos} (hA : AtsOk X.K cad Γ.ats) (ho : PEU X cad W o (wpE Γ o')) (he : PEU X cad W e (wpE Γ e')) (hs : swapsWith e (some (.Attribute o x p)) pos.line X.env = pure false) : PSU X cad W (.Assign [.Attribute o x p] e pos) (wpS Γ (.sattr o' x e')) :=
  (ps_fld ho he hs).mono fun D σ H ⟨ρ, δ, α, M, E', rs, rm, t, el⟩ => by
    simp only [wpS] at t
    refine ⟨ρ, δ, α, M, _, _, rs, rm, t, fun d M1 q v H1 α1 n1 r1 m1 => ?_, fun c d M' x => el.wx rs x⟩
    refine ⟨ρ, δ, α1, M1, _, _, rs.nx n1, m1, q, fun y M2 q2 u H2 α2 n2 r2 m2 => ?_, fun c d M' x => (el.wx rs x).nx n1⟩
    obtain ⟨n, c, fs, rfl, hm, hc, hl, q3⟩ := q2.inv
    obtain ⟨b, rfl, hα⟩ := r2
    obtain ⟨dx, ws, h1, h2, h3⟩ := m2.get hα hm
    obtain ⟨c1, c2⟩ := hA _ hc
    have nw : Nx [] α2 H2 α2 (upd H2 b (.ins (cad c) dx (putF x v ws))) := Nx.write h1 (List.mem_of_getElem? hα)
    obtain ⟨p1, p2⟩ := putA_rel (x := x) (r1.nx n2) h2 h3
    exact ⟨b, _, dx, ws, rfl, h1, c1, c2, by rw [← len_rel h2]; exact hl, el.nx _ _ q3 _ _ _ ((n1.trans n2).trans nw) (rs.nx ((n1.trans n2).trans nw)) (m2.write hα ⟨dx, _, upd_same, p1, p2.nx nw⟩)⟩
/-! ### methods -/
theorem mform {args : List Expr} {env : Env} (h : (backTo pos (starEach args env)).any (·.1) = false) (hn : args.length < 30) : methodCallForm (args.length + ([] : List Keyword).length) (backTo pos (starEach args env)) (backToKw pos (keywordEach [] env)) = true := by
  unfold methodCallForm
  have e : (backTo pos (starEach args env)).all (!·.1) = true := by
    rw [List.all_eq_true]
    intro x hx
    have := List.any_eq_false.mp h x hx
    simpa using this
  rw [e]
  simp [keywordEach, backToKw]
  exact hn
theorem mcall_of {o : Expr} {m : Str} {ap : Pos} {args : List Expr} {s : Shared} {Q : Value → Shared → Prop} (hb : attributeBase o m X.env (eval o X.env) = eval o X.env) (hf : methodCallForm (args.length + ([] : List Keyword).length) (backTo pos (starEach args X.env)) (backToKw pos (keywordEach [] X.env)) = true) (hl : (ap.endLine == pos.line) = true)
    (h : wpAny (model X.prog X.w) X.A (eval o X.env) (fun ov s₁ => ∀ pl : Sem Bool, wpAny (model X.prog X.w) X.A (getMethod ov m pl) (fun fx s₂ => wpAny (model X.prog X.w) X.A (callWith pos fx.1 fx.2 (backTo pos (starEach args X.env)) (backToKw pos (keywordEach [] X.env))) Q X.xe s₂) X.xe s₁) X.xe s) :
    wpAny (model X.prog X.w) X.A (eval (.Call (.Attribute o m ap) args [] pos) X.env) Q X.xe s := by
  rw [arm_eval_Call, hb]
  refine wpAny_bind (wpAny_mono h (fun ov s₁ h₁ => ?_) fun _ _ e => e)
  refine wpAny_bind (wpAny_standAt ?_)
  have hpos : methodCallPos true o X.env ap pos = pure pos := by unfold methodCallPos; simp [hl]
  unfold methodCall
  rw [hf]
  refine wpAny_bind (wpAny_holding (wpAny_mono (h₁ _) (fun fx s₂ h₂ => ?_) fun _ _ e => e))
  exact wpAny_bind (wpAny_of_eq hpos h₂)
/-- what stands behind a method's call -/
theorem meth_own {Γ : Tab} {k c : Nat} {m : Str} {f : Fn} {ρ α : List Addr} {H : Hp} {M : Mem} {x : D} {v : V} {P : D → Prop} (hf : Γ.fn[k]? = some f) (how : f.own = some (c, .meth, m)) (rm : RM (gx X cad) ρ H α M) (r : RD (gx X cad) ρ H α x v)
    (q : insD M x fun _ c fs => ownD Γ.fn k .meth c (lookA fs (nameD Γ.fn k) = none ∧ P x)) : ∃ a dx ws, v = .ref a ∧ H a = some (.ins (cad c) dx ws) ∧ ws.lookup m = none ∧ P x := by
  obtain ⟨n, c', fs, rfl, hm1, q1⟩ := insD.inv q
  obtain ⟨f', m', hf', ho', hno, q2⟩ := ownD.inv q1
  rw [nameD_of hf' ho'] at hno
  rw [hf] at hf'
  cases hf'
  rw [how] at ho'
  cases ho'
  obtain ⟨b, rfl, hα⟩ := r
  obtain ⟨dx, ws, h1, h2, h3⟩ := rm.get hα hm1
  refine ⟨b, dx, ws, rfl, h1, ?_, q2⟩
  rcases look_rel m h2 h3 with ⟨_, e⟩ | ⟨d', v', e1, _, _⟩
  · exact e
  · exfalso
    have hno : fs.lookup m = none := hno
    rw [hno] at e1; cases e1
theorem u_mcall0 {Γ : Tab} {k L c : Nat} {m : Str} {f : Fn} {o : Expr} {o' : E} {ap : Pos} (hf : Γ.fn[k]? = some f) (how : f.own = some (c, .meth, m)) (I : FnI X.prog X.w X.K cad X.mg X.base L f) (gd : X.A.guards = some []) (hr : Room L X.A) (tk : Takes X W)
    (ho : PEU X cad W o (wpE Γ o')) (hb : attributeBase o m X.env (eval o X.env) = eval o X.env) (hl : (ap.endLine == pos.line) = true) : PEU X cad W (.Call (.Attribute o m ap) [] [] pos) (wpE Γ (.mcall k o' .nil)) := by
  obtain ⟨fa, fd, F, hat, hbd, _⟩ := I.ex
  obtain ⟨hc, hm⟩ := hat.meth how
  refine ⟨fun pins s σ H Qv I0 ⟨ρ, δ, α, M, Q', X', rs, rm, t, hq, hx⟩ => ?_⟩
  simp only [wpE, wpEs] at t
  refine mcall_of hb (mform rfl (by decide)) hl (thn (ho.run pins s σ H (fun x H1 => ∃ a dx ws, x = .ref a ∧ H1 a = some (.ins (cad c) dx ws) ∧ ws.lookup m = none ∧ lsp ⟨X.K, cad⟩ f [.ref a] H1 Qv (WE W σ)) I0 ⟨ρ, δ, α, M, _, _, rs, rm, t, fun d M1 q v H1 α1 n1 r1 m1 => ?_, hx⟩) fun u s1 ⟨x, H1, I1, rx, a, dx, ws, ex, ea, l, q⟩ => ?_)
  · obtain ⟨a, dx, ws, rfl, h1, h2, q2⟩ := meth_own (P := fun x => callD Γ.fn k [x] M1 Q' X') hf how m1 r1 q
    obtain ⟨f', hf', hl', q3⟩ := callD.inv q2
    rw [hf] at hf'
    cases hf'
    exact ⟨a, dx, ws, rfl, h1, h2, [d], ρ, α1, M1, _, _, RDs.cons r1 RDs.nil, m1, hl', q3, fun d M' z => (hq d M' z).nx n1, fun c d M' x => (hx c d M' x).nx n1⟩
  · subst ex
    obtain rfl : u = Value.ref a := rx
    intro pl
    refine getmeth_ok I1 ea hc hm l ?_
    exact PySem.W.callWith_K0 (first := [.ref a]) I1.kIn hm.kp (run_fnG (us := [.ref a]) F gd hr hbd tk I1 (.cons (show RelV (.ref a) (.ref a) from rfl) .nil) q)
theorem u_mcall {Γ : Tab} {k L c : Nat} {m : Str} {f : Fn} {o e : Expr} {o' : E} {es : List Expr} {es' : Es} {ap : Pos} (hf : Γ.fn[k]? = some f) (how : f.own = some (c, .meth, m)) (I : FnI X.prog X.w X.K cad X.mg X.base L f) (gd : X.A.guards = some []) (hr : Room L X.A) (tk : Takes X W)
    (ho : PEU X cad W o (wpE Γ o')) (ha : PAU X cad W (e :: es) (wpEs Γ es')) (hb : attributeBase o m X.env (eval o X.env) = eval o X.env) (hn : (e :: es).length < 30) (hl : (ap.endLine == pos.line) = true)
    (hst : starEach (e :: es) X.env = (false, eval e X.env) :: starEach es X.env) (hpl : (backTo pos (starEach es X.env)).any (·.1) = false) :
    PEU X cad W (.Call (.Attribute o m ap) (e :: es) [] pos) (wpE Γ (.mcall k o' es')) := by
  obtain ⟨fa, fd, F, hat, hbd, _⟩ := I.ex
  obtain ⟨hc, hm⟩ := hat.meth how
  refine ⟨fun pins s σ H Qv I0 ⟨ρ, δ, α, M, Q', X', rs, rm, t, hq, hx⟩ => ?_⟩
  simp only [wpE] at t
  have hpl2 : (backTo pos (starEach (e :: es) X.env)).any (·.1) = false := by
    rw [hst]
    show (false || (backTo pos (starEach es X.env)).any (·.1)) = false
    rw [hpl]; rfl
  refine mcall_of hb (mform hpl2 hn) hl (thn (ho.run pins s σ H (fun x H1 => ∃ a dx ws, x = .ref a ∧ H1 a = some (.ins (cad c) dx ws) ∧ ws.lookup m = none ∧ upa (gx X cad) W (wpEs Γ es') σ H1 fun vs H2 => lsp ⟨X.K, cad⟩ f (.ref a :: vs) H2 Qv (WE W σ)) I0 ⟨ρ, δ, α, M, _, _, rs, rm, t, fun d M1 q v H1 α1 n1 r1 m1 => ?_, hx⟩) fun u s1 ⟨x, H1, I1, rx, a, dx, ws, ex, ea, l, q⟩ => ?_)
  · obtain ⟨a, dx, ws, rfl, h1, h2, q2⟩ := meth_own (P := fun x => wpEs Γ es' δ M1 (fun ds M2 => callD Γ.fn k (x :: ds) M2 Q' X') X') hf how m1 r1 q
    refine ⟨a, dx, ws, rfl, h1, h2, ρ, δ, α1, M1, _, _, rs.nx n1, m1, q2, fun ds M2 q3 vs H2 α2 n2 r2 m2 => ?_, fun c d M' x => (hx c d M' x).nx n1⟩
    obtain ⟨f', hf', hl', q4⟩ := callD.inv q3
    rw [hf] at hf'
    cases hf'
    exact ⟨d :: ds, ρ, α2, M2, _, _, RDs.cons (r1.nx n2) r2, m2, hl', q4, fun d M' z => (hq d M' z).nx (n1.trans n2), fun c d M' x => (hx c d M' x).nx (n1.trans n2)⟩
  · subst ex
    obtain rfl : u = Value.ref a := rx
    intro pl
    refine getmeth_ok I1 ea hc hm l ?_
    refine PySem.W.callWith_K (first := [.ref a]) (h₀ := X.base) I1.ok.mod.kin hm.kp (thn (ha.run pos pins s1 σ H1 _ I1 q) fun us s2 ⟨vs, H2, I2, r2, q2⟩ => ⟨I2.kIn, ?_⟩) hst hpl
    exact run_fnG (us := .ref a :: us) F gd hr hbd tk I2 (.cons (show RelV (.ref a) (.ref a) from rfl) r2) q2
/-! ### properties -/
theorem u_prop {Γ : Tab} {k L c : Nat} {m : Str} {f : Fn} {a : Expr} {a' : E} (hf : Γ.fn[k]? = some f) (how : f.own = some (c, .prop, m)) (I : FnI X.prog X.w X.K cad X.mg X.base L f) (gd : X.A.guards = some []) (hr : Room L X.A)
    (ha : PEU X cad W a (wpE Γ a')) (hb : attributeBase a m X.env (eval a X.env) = eval a X.env) : PEU X cad W (.Attribute a m pos) (wpE Γ (.prop k a')) := by
  obtain ⟨fa, fd, L', hL, F, hat, hbd, _⟩ := I.ex1 (by unfold slack; rw [how])
  have hr := hr.mono hL
  obtain ⟨hc, pp, hp⟩ := hat.prop how
  refine ⟨fun pins s σ H Qv I0 ⟨ρ, δ, α, M, Q', X', rs, rm, t, hq, hx⟩ => ?_⟩
  simp only [wpE] at t
  refine attr_of hb (thn (ha.run pins s σ H (fun x H1 => ∃ a dx ws, x = .ref a ∧ H1 a = some (.ins (cad c) dx ws) ∧ lsp ⟨X.K, cad⟩ f [.ref a] H1 Qv (fun _ _ _ => False)) I0 ⟨ρ, δ, α, M, _, _, rs, rm, t, fun d M1 q v H1 α1 n1 r1 m1 => ?_, hx⟩) fun u s1 ⟨x, H1, I1, rx, a, dx, ws, ex, ea, q⟩ => ?_)
  · obtain ⟨n, c', fs, rfl, hm1, q1⟩ := insD.inv q
    obtain ⟨f', m', hf', ho', q2⟩ := ownD.inv q1
    rw [hf] at hf'
    cases hf'
    rw [how] at ho'
    cases ho'
    obtain ⟨b, rfl, hα⟩ := id r1
    obtain ⟨dx, ws, h1, h2, h3⟩ := m1.get hα hm1
    obtain ⟨f', hf', hl', q3⟩ := callD.inv q2
    rw [hf] at hf'
    cases hf'
    exact ⟨b, dx, ws, rfl, h1, [.ref n], ρ, α1, M1, _, _, RDs.cons r1 RDs.nil, m1, hl', q3, fun d M' z => (hq d M' z).nx n1, fun c d M' x => x.elim⟩
  · subst ex
    obtain rfl : u = Value.ref a := rx
    obtain ⟨mA, O, _, _, _, _⟩ := ins_get I1.hok ea
    obtain ⟨od, J, _⟩ := O.look
    obtain ⟨rest, hrec⟩ := hp.rec_
    have I2 := I1.tok (s1.toks + 1)
    have hcs : (PySem.W.clsIn X.K (cad c)).isSome = true := by
      obtain ⟨cd, hcd, _⟩ := PySem.W.any_some hc.hd
      rw [hcd]; rfl
    refine PySem.W.get_bind I1.kIn J (PySem.W.plainGet_of (hc.get m)).1 (PySem.W.findObj_data hcs hp.at_ hp.get hp.tak) (PySem.W.plainGet_of (hc.get m)).2 (wpAny_call (PySem.W.prop_get (s := { s1 with toks := s1.toks + 1 }) I1.kIn hrec ?_))
    have b := hbd { s1 with toks := s1.toks + 1 } [.ref a] I2.kIn (by rw [List.append_nil, ← lsp_len q]; rfl)
    rw [List.append_nil] at b
    refine codeAny_mono (F.run X.A.in1 X.stack { s1 with toks := s1.toks + 1 } H1 ⟨[.ref a], []⟩ [.ref a] [.ref a] Qv (fun _ _ _ => False) gd hr.in1 I2.env0.in1 b (.cons (show RelV (.ref a) (.ref a) from rfl) .nil) q) fun r s' hq' => ?_
    cases r with
    | error er =>
      obtain ⟨_, _, _, _, _, _, _, _, _, _, _, _, z⟩ := hq'
      exact z.elim
    | ok fl =>
      cases fl with
      | ret u =>
        obtain ⟨v, H', I3, rv, q3⟩ := I2.after hq'
        show wpAny _ _ (handedOut u) _ _ _
        rw [PySem.W.handedOut_of (handed_of rv)]
        exact wpAny_pure ⟨v, H', I3, rv, q3⟩
      | next => exact False.elim hq'
      | brk => exact False.elim hq'
      | cont => exact False.elim hq'
/-! ### new instances -/
theorem mk_nx {ρ α : List Addr} {H : Hp} {x dx C : Addr} (h1 : H x = none) (h2 : H dx = none) (h3 : dx ≠ x) : Nx ρ α H (α ++ [x]) (upd (upd H dx (.own x)) x (.ins C dx [])) :=
  (Nx.new h2).trans (Nx.num (by rw [upd_ne (Ne.symm h3)]; exact h1))
theorem mk_rm {G : Gm} {ρ α : List Addr} {H : Hp} {M : Mem} {x dx : Addr} {c : Nat} (rm : RM G ρ H α M) (h1 : H x = none) (h2 : H dx = none) (h3 : dx ≠ x) : RM G ρ (upd (upd H dx (.own x)) x (.ins (G.cad c) dx [])) (α ++ [x]) (M ++ [.ins c []]) :=
  (rm.new h2).num (by rw [upd_ne (Ne.symm h3)]; exact h1) ⟨dx, [], upd_same, rfl, RDs.nil⟩
theorem u_new {Γ : Tab} {k L c : Nat} {m : Str} {f : Fn} {es : List Expr} {es' : Es} {p : Pos} (hf : Γ.fn[k]? = some f) (how : f.own = some (c, .init, m)) (I : FnI X.prog X.w X.K cad X.mg X.base L f) (gd : X.A.guards = some []) (hr : Room L X.A) (tk : Takes X W) (hg : Gl X f.name)
    (ha : PAU X cad W es (wpEs Γ es')) (hst : ∀ e r, es = e :: r → starEach (e :: r) X.env = (false, eval e X.env) :: starEach r X.env) (hpl : ∀ e r, es = e :: r → (backTo pos (starEach r X.env)).any (·.1) = false) (hnil : es = [] → es' = .nil) :
    PEU X cad W (.Call (.Name f.name p) es [] pos) (wpE Γ (.new k es')) := by
  obtain ⟨fa, fd, L', hL, F, hat, hbd, _⟩ := I.ex1 (by unfold slack; rw [how])
  have hr := hr.mono hL
  obtain ⟨hm, hM⟩ := hat.init how
  have made : ∀ {pins : List (Addr × Obj)} {σ : L2.St} {H : Hp} {s : Shared} {Qv : VK} {us : List Value} {vs : List V}, Inv X pins σ H s → Vals vs us →
      (∀ x dx, H x = none → H dx = none → dx ≠ x → lsp ⟨X.K, cad⟩ f (.ref x :: vs) (upd (upd H dx (.own x)) x (.ins (cad c) dx [])) (fun v H2 => v = .non ∧ Qv (.ref x) H2) (WE W σ)) →
      wpAny (model X.prog X.w) X.A (call (.ref (cad c)) us) (EP X pins σ Qv) X.xe s := by
    intro pins σ H s Qv us vs I0 r h
    have hq := h (s.heap.objs.size + 1) s.heap.objs.size (I0.hok.fresh (Nat.le_succ _)) (I0.hok.fresh (Nat.le_refl _)) (Nat.ne_of_lt (Nat.lt_succ_self _))
    have I2 := Inv.made (C := cad c) I0
    have r2 : Vals (V.ref (s.heap.objs.size + 1) :: vs) (Value.ref (s.heap.objs.size + 1) :: us) := .cons rfl r
    have b := hbd { s with heap := (s.heap.push PySem.W.emptyDict).push (PySem.W.instObj (cad c) s.heap.objs.size) } (Value.ref (s.heap.objs.size + 1) :: us) I2.kIn (by rw [List.append_nil, ← r2.length]; exact lsp_len hq)
    rw [List.append_nil] at b
    refine wpAny_call (make_map (f := fa) I0.kIn hM.makes hM.init (beq_iff_eq.mp hM.fn) (codeAny_mono (F.run _ X.stack _ _ ⟨Value.ref (s.heap.objs.size + 1) :: us, []⟩ (Value.ref (s.heap.objs.size + 1) :: us) _ _ (WE W σ) gd (hr.make (cad c) us []) (I2.env0.make (cad c) us []) b r2 hq) fun r s' hq' => ?_))
    cases r with
    | error e => exact passAt tk σ pins _ _ e s' I2 hq'
    | ok fl =>
      cases fl with
      | ret u =>
        obtain ⟨v, H', I3, rv, ev, q3⟩ := I2.after hq'
        subst ev
        exact ⟨rv, ⟨V.ref (s.heap.objs.size + 1), H', I3, rfl, q3⟩⟩
      | next => exact False.elim hq'
      | brk => exact False.elim hq'
      | cont => exact False.elim hq'
  have key : ∀ {ρ α α1 : List Addr} {δ : Dst} {M M1 : Mem} {Q' : DK} {X' : XD} {σ : L2.St} {H H1 : Hp} {Qv : VK} {ds : List D} {vs : List V}, (∀ d M', Q' d M' → wv (gx X cad) ρ α H Qv d M') → (∀ c d M', X' c d M' → wx (gx X cad) W ρ α H σ c d M') → Nx [] α H α1 H1 → RDs (gx X cad) ρ H1 α1 ds vs → RM (gx X cad) ρ H1 α1 M1 →
      (clsD Γ.fn k fun c => callD Γ.fn k (.ref M1.length :: ds) (M1 ++ [.ins c []]) (fun v M2 => v = .non ∧ Q' (.ref M1.length) M2) X') →
      ∀ x dx, H1 x = none → H1 dx = none → dx ≠ x → lsp ⟨X.K, cad⟩ f (.ref x :: vs) (upd (upd H1 dx (.own x)) x (.ins (cad c) dx [])) (fun v H2 => v = .non ∧ Qv (.ref x) H2) (WE W σ) := by
    intro ρ α α1 δ M M1 Q' X' σ H H1 Qv ds vs hq hx n1 r1 m1 q x dx e1 e2 e3
    obtain ⟨f', c', m', hf', ho', q1⟩ := clsD.inv q
    rw [hf] at hf'
    cases hf'
    rw [how] at ho'
    cases ho'
    obtain ⟨f', hf', hl, q2⟩ := callD.inv q1
    rw [hf] at hf'
    cases hf'
    have nm := mk_nx (ρ := []) (α := α1) (C := cad c) e1 e2 e3
    have at0 : (α1 ++ [x])[M1.length]? = some x := by rw [← m1.len, List.getElem?_append_right (Nat.le_refl _)]; simp
    refine ⟨.ref M1.length :: ds, ρ, α1 ++ [x], M1 ++ [.ins c []], _, _, RDs.cons ⟨x, rfl, at0⟩ (r1.nx nm), mk_rm (c := c) m1 e1 e2 e3, hl, q2, fun d M' ⟨hd, z⟩ v H' α' n r m => ?_, fun c d M' x => (hx c d M' x).nx (n1.trans nm)⟩
    subst hd
    exact ⟨r, hq _ _ z _ _ _ ((n1.trans nm).trans n) ⟨x, rfl, num_nx n at0⟩ m⟩
  refine ⟨fun pins s σ H Qv I0 ⟨ρ, δ, α, M, Q', X', rs, rm, t, hq, hx⟩ => ?_⟩
  simp only [wpE] at t
  refine wpAny_Call_Name_kw (ld_glob I0 hg hm ?_ I.dbg)
  cases es with
  | nil =>
    have e := hnil rfl
    subst e
    simp only [wpEs] at t
    exact PySem.W.callWith_K0 I0.kIn hM.kp (made (us := []) I0 .nil (key (M := M) (δ := δ) hq hx (Nx.refl ..) RDs.nil rm t))
  | cons e r =>
    refine PySem.W.callWith_K (h₀ := X.base) I0.ok.mod.kin hM.kp (thn (ha.run pos pins s σ H (fun vs H1 => ∀ x dx, H1 x = none → H1 dx = none → dx ≠ x → lsp ⟨X.K, cad⟩ f (.ref x :: vs) (upd (upd H1 dx (.own x)) x (.ins (cad c) dx [])) (fun v H2 => v = .non ∧ Qv (.ref x) H2) (WE W σ)) I0
      ⟨ρ, δ, α, M, _, _, rs, rm, t, fun ds M1 q vs H1 α1 n1 r1 m1 => key (M := M) (δ := δ) hq hx n1 r1 m1 q, hx⟩) fun us s1 ⟨vs, H1, I1, r1, q⟩ => ⟨I1.kIn, ?_⟩) (hst e r rfl) (hpl e r rfl)
    exact made I1 r1 q
/-! ### isinstance of an own class, texts split, tuple(range) -/
/-- what isinstance asks of an instances' class -/
structure InsC (K : PySem.W.Frag) (mg : Str → Option Value) (cad : Cad) (c : Nat) (x : Str) : Prop where
  mg : mg x = some (.ref (cad c))
  dbg : (x == ("__debug__" : Str)) = false
  self : PySem.W.kitOne K (.ref (cad c)) (.ref (cad c)) = some true
  plain : ∀ n ∈ (["NoneType", "bool", "int", "str", "tuple", "list", "dict"] : List String), PySem.W.kitOne K (.type n) (.ref (cad c)) = some false
  cl : Cls K (cad c)
  ca : PySem.W.findIn K (.ref (cad c)) "__class__" = some (some (.builtin "object.__class__"))
  cn : PySem.W.specialIn K (.builtin "object.__class__") "__get__" = some (some (.builtin "getset_descriptor.__get__"))
  ct : PySem.W.takesIn K (.builtin "object.__class__") = some true
  cm : PySem.W.mroIn K (cad c) (.type "object") = some true
theorem tyN_in {M : Mem} {d : D} {n : String} (h : tyN M d = some n) : n ∈ (["NoneType", "bool", "int", "str", "tuple", "list", "dict"] : List String) := by
  unfold tyN at h
  split at h <;> first
    | (cases h; simp; done)
    | (split at h <;> first
        | (cases h; simp; done)
        | cases h)
    | cases h
theorem isinD.inv {M : Mem} {x : D} {c : Nat} {k : Bool → Prop} (h : isinD M x c k) : (∃ n fs, x = .ref n ∧ M[n]? = some (.ins c fs) ∧ k true) ∨ ∃ n, tyN M x = some n ∧ k false := by
  unfold isinD at h
  split at h
  · rename_i n
    split at h
    · obtain ⟨rfl, h⟩ := h
      exact .inl ⟨_, _, rfl, by assumption, h⟩
    · rename_i hm
      exact .inr ⟨"list", by simp only [tyN, hm], h⟩
    · rename_i hm
      exact .inr ⟨"dict", by simp only [tyN, hm], h⟩
    · exact h.elim
  · exact h.elim
  · refine .inr ?_
    cases x <;> first
      | exact ⟨_, rfl, h⟩
      | (exfalso; rename_i h1 h2; exact h1 _ rfl)
      | (exfalso; rename_i h1 h2; exact h2 _ _ rfl)
theorem u_isin {Γ : Tab} {c : Nat} {y : Str} {a : Expr} {a' : E} {p p2 : Pos} (hC : InsC X.K X.mg cad c y) (hm : X.mg "isinstance" = none) (hg : Gl X "isinstance") (hg2 : Gl X y) (ha : PEU X cad W a (wpE Γ a'))
    (hs : starEach [a, .Name y p2] X.env = (false, eval a X.env) :: starEach [.Name y p2] X.env) : PEU X cad W (.Call (.Name "isinstance" p) [a, .Name y p2] [] pos) (wpE Γ (.isin a' c)) := by
  have q := pe_callB (p := p) (pos := pos) call_isi hg hm isi_boot (pa_cons ha (pa_cons (pe_glob (pos := p2) hg2 hC.mg (v := .ref (cad c)) rfl hC.dbg) pa_nil (by rfl)) hs) (by decide) (by decide) hs (by rfl)
  refine q.mono fun σ H Qv ⟨ρ, δ, α, M, Q', X', rs, rm, t0, hq, hx⟩ => ?_
  simp only [wpE] at t0
  refine ⟨ρ, δ, α, M, _, _, rs, rm, t0, fun x M1 q v H1 α1 n1 r1 m1 => ?_, hx⟩
  rcases q.inv with ⟨n, fs, rfl, hm1, q'⟩ | ⟨n, h1, q'⟩
  · obtain ⟨b, rfl, hα⟩ := r1
    obtain ⟨dx, ws, h1, h2, h3⟩ := m1.get hα hm1
    exact ⟨_, _, _, _, true, rfl, .own _, .base (.ins h1 hC.cl hC.ca hC.cn hC.ct hC.cm), hC.self, hq _ _ q' _ _ _ n1 rfl m1⟩
  · exact ⟨v, _, _, _, false, rfl, .own _, tyN_of m1 r1 h1, hC.plain n (tyN_in h1), hq _ _ q' _ _ _ n1 rfl m1⟩
theorem strs_to {G : Gm} {ρ α : List Addr} {H : Hp} : ∀ (ss : List Str), RDs G ρ H α (ss.map D.str) (ss.map V.str)
  | [] => RDs.nil
  | s :: ss => RDs.cons rfl (strs_to ss)
theorem u_split {Γ : Tab} {o e : Expr} {o' e' : E} {ap : Pos} (ho : PEU X cad W o (wpE Γ o')) (he : PEU X cad W e (wpE Γ e')) (hs : starEach [e] X.env = [(false, eval e X.env)]) (hb : attributeBase o "split" X.env (eval o X.env) = eval o X.env) (hl : (ap.endLine == pos.line) = true) :
    PEU X cad W (.Call (.Attribute o "split" ap) [e] [] pos) (wpE Γ (.split o' e')) := by
  refine (pe_split (apos := ap) (pos := pos) ho he hs hb hl).mono fun σ H Qv ⟨ρ, δ, α, M, Q', X', rs, rm, t, hq, hx⟩ => ?_
  simp only [wpE] at t
  refine ⟨ρ, δ, α, M, _, _, rs, rm, t, fun x M1 q v H1 α1 n1 r1 m1 => ?_, hx⟩
  obtain ⟨z, rfl, q1⟩ := q.inv
  cases r1
  refine ⟨⟨_, rfl⟩, ρ, δ, α1, M1, _, _, rs.nx n1, m1, q1, fun y M2 q2 u H2 α2 n2 r2 m2 => ?_, fun c d M' x => (hx c d M' x).nx n1⟩
  obtain ⟨a, b, e1, rfl, hb1, hb2, q3⟩ := q2.inv
  cases e1
  cases r2
  refine ⟨_, _, rfl, rfl, hb1, by rw [sizeLine_eq]; exact hb2, fun p hp => ?_⟩
  exact new_num m2 (strs_to _) q3 (fun d M' z => (hq d M' z).nx (n1.trans n2)) p hp
theorem u_dnew {Γ : Tab} : PEU X cad W (.Dict [] [] pos) (wpE Γ .dnew) := by
  refine (pe_dnewK (pos := pos)).mono fun σ H Qv ⟨ρ, δ, α, M, Q', X', rs, rm, t, hq, hx⟩ p hp => ?_
  simp only [wpE] at t
  refine hq _ _ t _ _ (α ++ [p]) (Nx.num hp) ⟨p, rfl, ?_⟩ (rm.num hp ⟨[], upd_same, rfl, RDs.nil⟩)
  rw [← rm.len, List.getElem?_append_right (Nat.le_refl _)]; simp
theorem u_dget {Γ : Tab} {o e f : Expr} {o' e' f' : E} {ap : Pos} (hu : X.A.units + 1 < cLine) (ho : PEU X cad W o (wpE Γ o')) (he : PEU X cad W e (wpE Γ e')) (hf : PEU X cad W f (wpE Γ f')) (m : L2.M2 X o "get" ap e f pos) :
    PEU X cad W (.Call (.Attribute o "get" ap) [e, f] [] pos) (wpE Γ (.dget o' e' f')) := by
  refine (pe_dget2 hu ho he hf m).mono fun σ H Qv ⟨ρ, δ, α, M, Q', X', rs, rm, t, hq, hx⟩ => ?_
  simp only [wpE] at t
  refine ⟨ρ, δ, α, M, _, _, rs, rm, t, fun x M1 q v H1 α1 n1 r1 m1 => ?_, hx⟩
  obtain ⟨n, kvs, rfl, hm, q2⟩ := dctD.inv q
  obtain ⟨a, rfl, hα⟩ := id r1
  obtain ⟨ws, h1, h2, h3⟩ := m1.get hα hm
  refine ⟨a, rfl, .inl ⟨ws, .inl h1⟩, ρ, δ, α1, M1, _, _, rs.nx n1, m1, q2, fun y M2 q3 u H2 α2 n2 r2 m2 => ?_, fun c d M' x => (hx c d M' x).nx n1⟩
  refine ⟨ρ, δ, α2, M2, _, _, rs.nx (n1.trans n2), m2, q3, fun z M3 q4 w H3 α3 n3 r3 m3 => ?_, fun c d M' x => (hx c d M' x).nx (n1.trans n2)⟩
  obtain ⟨n', kvs', key, e1, hm3, hk, q5⟩ := dgetD.inv q4
  cases e1
  have ey := keyD_rel hk (r2.nx n3)
  subst ey
  obtain ⟨ws3, g1, g2, g3⟩ := m3.get (num_nx (n2.trans n3) hα) hm3
  refine ⟨_, DGet.k g1, ?_⟩
  rcases val_rel key g2 g3 with ⟨e1, e2⟩ | ⟨d', v', e1, e2, r4⟩
  · rw [e1] at q5
    rw [e2]
    exact hq _ _ q5 _ _ _ ((n1.trans n2).trans n3) r3 m3
  · rw [e1] at q5
    rw [e2]
    exact hq _ _ q5 _ _ _ ((n1.trans n2).trans n3) r4 m3
theorem rg_rds {G : Gm} {ρ α : List Addr} {H : Hp} (i j : Int) : RDs G ρ H α (rngL i (j - i).toNat) (rgV i j) := by
  unfold rngL rgV
  induction (List.range (j - i).toNat) with
  | nil => exact RDs.nil
  | cons k ks ih => exact RDs.cons rfl ih
theorem u_tupr {Γ : Tab} {a b : Expr} {a' b' : E} {p1 p2 q2 : Pos} (hc : X.calm = true) (hg : Gl X "tuple") (hm : X.mg "tuple" = none) (hg2 : Gl X "range") (hm2 : X.mg "range" = none) (ha : PEU X cad W a (wpE Γ a')) (hb : PEU X cad W b (wpE Γ b'))
    (na : starEach [a, b] X.env = (false, eval a X.env) :: starEach [b] X.env) (nb : starEach [b] X.env = (false, eval b X.env) :: starEach [] X.env) : PEU X cad W (.Call (.Name "tuple" p1) [.Call (.Name "range" p2) [a, b] [] q2] [] pos) (wpE Γ (.tupr a' b')) := by
  refine (pe_tupRg (p := p1) (pos := pos) hc hg hm (prg_2 (p := p2) (pos := q2) hg2 hm2 ha hb na nb (by rw [nb]; rfl)) (by rfl)).mono fun σ H Qv ⟨ρ, δ, α, M, Q', X', rs, rm, t, hq, hx⟩ => ?_
  simp only [wpE] at t
  refine ⟨ρ, δ, α, M, _, _, rs, rm, t, fun x M1 q v H1 α1 n1 r1 m1 => ?_, hx⟩
  refine ⟨ρ, δ, α1, M1, _, _, rs.nx n1, m1, q, fun y M2 q2 u H2 α2 n2 r2 m2 => ?_, fun c d M' x => (hx c d M' x).nx n1⟩
  obtain ⟨i, rfl, q3⟩ := q2.inv
  obtain ⟨j, rfl, q4⟩ := q3.inv
  have r1' := r1.nx n2
  cases r1'
  cases r2
  obtain ⟨b1, b2, b3, q5⟩ := q4
  exact ⟨i, j, rfl, rfl, ⟨b1.1, b1.2, b2.1, b2.2, b3⟩, fun q hq' => new_tup m2 (rg_rds i j) q5 (fun d M' z => (hq d M' z).nx (n1.trans n2)) q hq'⟩
/-! ### several attributes of one instance -/
def gFld (K : PySem.W.Frag) (to : TE) (f : Str) : TG := fun v σ H Q => to σ H fun o H1 => ∃ a C dx fs, o = .ref a ∧ H1 a = some (.ins C dx fs) ∧ Cls K C ∧ NoAttr K C f ∧ fs.length < 1000 ∧ Q σ (upd H1 a (.ins C dx (putF f v fs)))
theorem pg_fld {o : Expr} {f : Str} {to : TE} {p : Pos} (ho : PE X o to) : PG X (.Attribute o f p) (gFld X.K to f) := by
  refine ⟨fun pins s σ H v u Q I r h => ?_⟩
  have ea : assign (.Attribute o f p) X.env u = (do
      let ov ← holding [u] (eval o X.env)
      standAt p.atName
      holding [u, ov] (setAttr ov f u)
      release [u, ov] []) := by first | rfl | unfold assign; rfl
  rw [ea]
  refine wpAny_bind (wpAny_holding (thn (ho.run pins s σ H _ I h) fun ov s1 ⟨x, H1, I1, r1, a, C, dx, fs, ex, e1, c1, c2, hl, q⟩ => ?_))
  subst ex
  obtain rfl : ov = Value.ref a := r1
  refine wpAny_bind (wpAny_standAt (wpAny_bind (wpAny_holding (setattr_ok I1 e1 c1 c2 hl r fun s2 I2 => ?_))))
  exact wpAny_release ⟨σ, _, I2, q⟩
def putsF : List Str → List V → List (Str × V) → List (Str × V)
  | x :: xs, v :: vs, fs => putsF xs vs (putF x v fs)
  | _, _, fs => fs
def gAttrs (K : PySem.W.Frag) (i : Nat) (xs : List Str) : TGs := fun vs σ H Q => ∃ a C dx fs, σ[i]? = some (some (.ref a)) ∧ H a = some (.ins C dx fs) ∧ Cls K C ∧ (∀ x ∈ xs, NoAttr K C x) ∧ fs.length + xs.length < 1000 ∧ vs.length = xs.length ∧ Q σ (upd H a (.ins C dx (putsF xs vs fs)))
def attrsB (x0 : Str) : List Str → List Expr → Bool
  | [], [] => true
  | x :: xs, .Attribute (.Name y _) z _ :: es => y == x0 && z == x && attrsB x0 xs es
  | _, _ => false
theorem upd_id {H : Hp} {a : Addr} {o : HO} (h : H a = some o) : upd H a o = H := by
  funext b
  by_cases z : b = a
  · rw [z, upd_same, h]
  · rw [upd_ne z]
theorem upd_two {H : Hp} {a : Addr} {o u : HO} : upd (upd H a o) a u = upd H a u := by
  funext b
  by_cases z : b = a
  · rw [z, upd_same, upd_same]
  · rw [upd_ne z, upd_ne z, upd_ne z]
theorem pgs_attrs {i : Nat} {x0 : Str} (hN : X.N[i]? = some x0) (hv : Vis X.env.scope x0) (hd : (x0 == ("__debug__" : Str)) = false) (hcd : (x0 == ("__classdict__" : Str)) = false) : ∀ (xs : List Str) (es : List Expr), attrsB x0 xs es = true → PGs X es (gAttrs X.K i xs)
  | [], [], _ => ⟨fun pins s σ H vs us Q I r ⟨a, C, dx, fs, e1, e2, _, _, _, hl, q⟩ => by
    have e : vs = [] := List.eq_nil_of_length_eq_zero hl
    subst e
    refine pgs_nil.run pins s σ H [] us Q I r ⟨rfl, ?_⟩
    rw [show putsF [] [] fs = fs from rfl, upd_id e2] at q
    exact q⟩
  | [], _ :: _, h => by simp [attrsB] at h
  | _ :: _, [], h => by simp [attrsB] at h
  | x :: xs, e :: es, h => by
    cases e with
    | Attribute b z p =>
      cases b with
      | Name y py =>
        simp only [attrsB, Bool.and_eq_true, beq_iff_eq] at h
        obtain ⟨⟨rfl, rfl⟩, h3⟩ := h
        have g := pgs_cons (pg_fld (f := z) (p := p) (pe_var (pos := py) hN hv hd hcd)) (pgs_attrs hN hv hd hcd xs es h3) (by rfl)
        refine ⟨fun pins s σ H vs us Q I r ⟨a, C, dx, fs, e1, e2, c1, c2, hl, hvl, q⟩ => g.run pins s σ H vs us Q I r ?_⟩
        cases vs with
        | nil => simp at hvl
        | cons v vs =>
          simp only [List.length_cons] at hvl hl
          refine ⟨v, vs, rfl, .ref a, e1, a, C, dx, fs, rfl, e2, c1, c2 z List.mem_cons_self, by omega, a, C, dx, putF z v fs, e1, upd_same, c1, fun x hx => c2 x (List.mem_cons_of_mem _ hx), ?_, by omega, ?_⟩
          · have := length_putF z v fs; omega
          · rw [upd_two]; exact q
      | _ => simp [attrsB] at h
    | _ => simp [attrsB] at h
theorem attrs_each {x0 : Str} {env : Env} : ∀ {xs : List Str} {es : List Expr}, attrsB x0 xs es = true → (assignEach es env).length = xs.length ∧ (assignEach es env).findIdx? (·.1) = none
  | [], [], _ => ⟨rfl, rfl⟩
  | [], _ :: _, h => by simp [attrsB] at h
  | _ :: _, [], h => by simp [attrsB] at h
  | x :: xs, e :: es, h => by
    cases e with
    | Attribute b z p =>
      cases b with
      | Name y py =>
        simp only [attrsB, Bool.and_eq_true, beq_iff_eq] at h
        obtain ⟨i1, i2⟩ := attrs_each (env := env) h.2
        have e : assignEach (.Attribute (.Name y py) z p :: es) env = (false, assign (.Attribute (.Name y py) z p) env) :: assignEach es env := by rfl
        rw [e]
        refine ⟨by rw [List.length_cons, List.length_cons, i1], ?_⟩
        rw [List.findIdx?_cons, i2]; rfl
      | _ => simp [attrsB] at h
    | _ => simp [attrsB] at h
theorem puts_rel {G : Gm} {ρ α : List Addr} {H : Hp} : ∀ {xs : List Str} {ds : List D} {vs : List V} {fs gs : List (Str × D)} {ws : List (Str × V)}, putsA xs ds fs = some gs → RDs G ρ H α ds vs → fs.map (·.1) = ws.map (·.1) → RDs G ρ H α (fs.map (·.2)) (ws.map (·.2)) →
    vs.length = xs.length ∧ gs.map (·.1) = (putsF xs vs ws).map (·.1) ∧ RDs G ρ H α (gs.map (·.2)) ((putsF xs vs ws).map (·.2))
  | [], [], vs, fs, gs, ws, h, r, h1, h2 => by
    rw [show vs = [] from r]
    cases h
    exact ⟨rfl, h1, h2⟩
  | [], _ :: _, vs, fs, gs, ws, h, r, h1, h2 => by simp [putsA] at h
  | _ :: _, [], vs, fs, gs, ws, h, r, h1, h2 => by simp [putsA] at h
  | x :: xs, d :: ds, vs, fs, gs, ws, h, r, h1, h2 => by
    obtain ⟨v, vs', rfl, r1, rs⟩ := r
    obtain ⟨p1, p2⟩ := putA_rel (x := x) r1 h1 h2
    obtain ⟨l, g1, g2⟩ := puts_rel (show putsA xs ds (putA x d fs) = some gs from h) rs p1 p2
    exact ⟨by rw [List.length_cons, List.length_cons, l], g1, g2⟩
theorem s_sattrs {Γ : Tab} {i : Nat} {x0 : Str} {xs : List Str} {es : List Expr} {e : Expr} {e' : E} {kt : Nat} {pt : Pos} (hA : AtsOk X.K cad Γ.ats) (hc : X.calm = true) (hN : X.N[i]? = some x0) (hv : Vis X.env.scope x0) (hd : (x0 == ("__debug__" : Str)) = false) (hcd : (x0 == ("__classdict__" : Str)) = false)
    (hne : xs ≠ []) (hb : attrsB x0 xs es = true) (he : PEU X cad W e (wpE Γ e')) (hs : swapsWithSole [.Tuple es kt pt] e pos.line X.env = pure false) (hw : swappedStores [.Tuple es kt pt] e X.env = pure none) : PSU X cad W (.Assign [.Tuple es kt pt] e pos) (wpS Γ (.sattrs i xs e')) :=
  (ps_asg he (pg_tup (pos := pt) (k := kt) hc (pgs_attrs hN hv hd hcd xs es hb) (attrs_each hb).1 (attrs_each hb).2) hs hw (by rfl)).mono fun D σ H ⟨ρ, δ, α, M, E', rs, rm, t, el⟩ => by
    simp only [wpS] at t
    refine ⟨ρ, δ, α, M, _, _, rs, rm, t, fun d M1 q v H1 α1 n1 r1 m1 => ?_, fun c d M' x => el.wx rs x⟩
    obtain ⟨ds, rfl, q1⟩ := tupD.inv q
    obtain ⟨y, hy, q2⟩ := slotD.inv q1
    obtain ⟨n, c, fs, rfl, hm, ha, hl, q3⟩ := insD.inv q2
    split at q3 <;> try contradiction
    rename_i gs hg
    obtain ⟨a, vs, rfl, t1, rds⟩ := r1
    obtain ⟨w, hw1, rw1⟩ := (rs.nx n1).2 i _ hy
    obtain ⟨b, rfl, hα⟩ := rw1
    obtain ⟨dx, ws, h1, h2, h3⟩ := m1.get hα hm
    obtain ⟨l, g1, g2⟩ := puts_rel hg rds h2 h3
    have nw : Nx [] α1 H1 α1 (upd H1 b (.ins (cad c) dx (putsF xs vs ws))) := Nx.write h1 (List.mem_of_getElem? hα)
    obtain ⟨x1, hx1⟩ := List.exists_mem_of_ne_nil xs hne
    have cl := (hA _ (ha x1 hx1)).1
    exact ⟨a, vs, rfl, t1.sqt, l, b, cad c, dx, ws, hw1, h1, cl, fun x hx => (hA _ (ha x hx)).2, by rw [← len_rel h2]; exact hl, l, el.nx _ _ q3 _ _ _ (n1.trans nw) (rs.nx (n1.trans nw)) (m1.write hα ⟨dx, _, upd_same, g1, g2.nx nw⟩)⟩
end
end AA
/-! AA8: the checker. -/
namespace AA
open PySem PySem.Spec L2
open PyProof.Rows hiding St

/-! ### looks at the syntax -/
def visB (sc : Scope) (x : Str) : Bool := match sc.names.lookup x with
  | some .local => true | some .cell => true | some .free => true | _ => false
def glB (sc : Scope) (x : Str) : Bool := match sc.names.lookup x with
  | some .globalImplicit => true | _ => false
def locB (sc : Scope) (x : Str) : Bool := match sc.names.lookup x with
  | some .local => true | _ => false
def celB (sc : Scope) (x : Str) : Bool := match sc.names.lookup x with
  | some .cell => true | _ => false
/-- an expression that stands where any value may: no star, no slice, no set, no comprehension of another kind -/
def okX : Expr → Bool
  | .Starred .. => false | .Slice .. => false | .Set .. => false | .SetComp .. => false | .DictComp .. => false | _ => true
def notC : Expr → Bool
  | .ListComp .. => false | .SetComp .. => false | .DictComp .. => false | _ => true
def simpleB : Expr → Bool
  | .Name .. => true | .Subscript .. => true | .Attribute .. => true | _ => false
def starB : Expr → Bool
  | .Starred .. => true | _ => false
/-- all targets are names that lie in a function's frame, on one line: two or three of them are stored backwards -/
def swapB (sc : Scope) (ts vs : List Expr) : Option (Option (List Str)) :=
  if (!(ts.length == 2 || ts.length == 3) || vs.length != ts.length) = true then some none
  else if (vs.any starB) = true then some none
  else if ((ts.filterMap fun
      | .Name id pos => if (sc.names.lookup id == some .local && pos.line == (ts.head?.map (·.pos.line)).getD 0) = true then some id else none
      | _ => none).length != ts.length || (ts.filterMap fun
      | .Name id pos => if (sc.names.lookup id == some .local && pos.line == (ts.head?.map (·.pos.line)).getD 0) = true then some id else none
      | _ => none).eraseDups.length != (ts.filterMap fun
      | .Name id pos => if (sc.names.lookup id == some .local && pos.line == (ts.head?.map (·.pos.line)).getD 0) = true then some id else none
      | _ => none).length) = true then some none
  else if (vs.all (foldedForSure 8)) = true then some none
  else if (vs.all (constantsAlone 8)) = true then none
  else some (some (ts.filterMap fun
      | .Name id pos => if (sc.names.lookup id == some .local && pos.line == (ts.head?.map (·.pos.line)).getD 0) = true then some id else none
      | _ => none))
theorem swapB_ok {env : Env} (hk : env.scope.kind = .function) {ts vs : List Expr} {k k2 : Nat} {p p2 : Pos} {r : Option (List Str)} (h : swapB env.scope ts vs = some r) : swappedStores [.Tuple ts k p] (.Tuple vs k2 p2) env = pure r := by
  have hb : env.blockKind = .function := by unfold Env.blockKind; rw [hk]; rfl
  unfold swapB at h
  unfold swappedStores
  have es : (fun x => match x with | .Starred .. => true | _ => false : Expr → Bool) = starB := by funext x; cases x <;> rfl
  simp only [hb, Env.kindOf, bne_self_eq_false, Bool.or_false]
  by_cases h1 : (!(ts.length == 2 || ts.length == 3) || vs.length != ts.length) = true
  · rw [if_pos h1] at h ⊢; cases h; rfl
  rw [if_neg h1] at h ⊢
  by_cases h2 : (vs.any starB) = true
  · rw [if_pos h2] at h
    cases h
    first | rw [if_pos h2] | (rw [if_pos (by rw [← es] at h2; exact h2)])
  rw [if_neg h2] at h
  rw [if_neg (by rw [← es] at h2; exact h2)]
  split at h
  · rename_i h3
    cases h
    exact if_pos h3
  · rename_i h3
    refine (if_neg h3).trans ?_
    split at h
    · rename_i h4
      cases h
      exact if_pos h4
    · rename_i h4
      refine (if_neg h4).trans ?_
      split at h
      · cases h
      · rename_i h5
        cases h
        exact (if_neg h5).trans rfl
def notTup : Expr → Bool
  | .Tuple .. => false | .List .. => false | _ => true
def swapNone (sc : Scope) (tg e : Expr) : Bool := match tg, e with
  | .Tuple ts _ _, .Tuple vs _ _ => (match swapB sc ts vs with | some none => true | _ => false)
  | .List .., .Tuple .. => false
  | _, _ => true
theorem swapNone_ok {env : Env} (hk : env.scope.kind = .function) {tg e : Expr} (h : swapNone env.scope tg e = true) : swappedStores [tg] e env = pure none := by
  by_cases ht : ∃ ts k p vs k2 p2, tg = .Tuple ts k p ∧ e = .Tuple vs k2 p2
  · obtain ⟨ts, k, p, vs, k2, p2, rfl, rfl⟩ := ht
    simp only [swapNone] at h
    split at h
    · rename_i h'; exact swapB_ok hk h'
    · cases h
  · unfold swappedStores
    cases tg <;> cases e <;> first
      | rfl
      | (exact absurd ⟨_, _, _, _, _, _, rfl, rfl⟩ ht)
      | (simp [swapNone] at h; done)
/-- [..] given to a name that lies in the frame, on its line: the name is taken within the comprehension's frame -/
def swC (sc : Scope) (y : Str) (py : Pos) (scope : Scope) (p : Pos) : Bool := locB sc y && py.line == p.line && !(scope.names.any fun (n, k) => n == y && (k == .local || k == .cell))
def swOk (sc : Scope) (tg e : Expr) : Bool := match e with
  | .ListComp _ _ scope p => (match tg with | .Name y py => !swC sc y py scope p | _ => true)
  | .SetComp .. => false
  | .DictComp .. => false
  | _ => true
theorem swOk_ok {env : Env} (hk : env.scope.kind = .function) {tg e : Expr} {l : Nat} (h : swOk env.scope tg e = true) : swapsWithSole [tg] e l env = pure false := by
  have hb : env.blockKind = .function := by unfold Env.blockKind; rw [hk]; rfl
  show swapsWith e (some tg) l env = pure false
  unfold swapsWith
  cases e <;> first
    | rfl
    | (simp [swOk] at h; done)
    | (cases tg <;> first
        | rfl
        | (rename_i y py
           simp only [swOk, swC, locB, Bool.not_eq_true'] at h
           simp only [Env.kindOf, hb]
           have e : (match List.lookup y env.scope.names with | some NameKind.local => true | x => false) = (List.lookup y env.scope.names == some NameKind.local) := by
             cases List.lookup y env.scope.names with
             | none => rfl
             | some k => cases k <;> rfl
           rw [e] at h
           have e2 : (ScopeKind.function == ScopeKind.function) = true := rfl
           rw [e2, Bool.true_and]
           exact congrArg pure h))
theorem swC_ok {env : Env} (hk : env.scope.kind = .function) {y : Str} {py p : Pos} {elt : Expr} {gs : List Comprehension} {scope : Scope} {l : Nat} (h : swC env.scope y py scope p = true) : swapsWith (.ListComp elt gs scope p) (some (.Name y py)) l env = pure true := by
  simp only [swC, Bool.and_eq_true, Bool.not_eq_true'] at h
  refine sw_true hk ?_ h.1.2 h.2
  have h1 := h.1.1
  unfold locB at h1
  split at h1
  · assumption
  · cases h1

/-! ### the checker -/
def lineB (ap p : Pos) : Bool := ap.endLine == p.line
def okS : Expr → Bool
  | .Name .. => true | .Subscript .. => true | .Attribute .. => true | .Constant .. => true | .Call _ (_ :: _) _ _ => true | _ => false
/-- may be assigned to: fn tells the cells made at the entry -/
def bndB (N : List Str) (sc : Scope) (fn : Str → Bool) (i : Nat) (x : Str) : Bool := N[i]? == some x && (locB sc x || (celB sc x && fn x))
mutual
def chkT (N : List Str) (sc : Scope) (fn : Str → Bool) : T → Expr → Bool
  | .nm i, .Name x _ => bndB N sc fn i x
  | .tp ts, .Tuple es _ _ => chkTs N sc fn ts es
  | _, _ => false
def chkTs (N : List Str) (sc : Scope) (fn : Str → Bool) : Ts → List Expr → Bool
  | .nil, [] => true
  | .cons t ts, e :: es => chkT N sc fn t e && chkTs N sc fn ts es
  | _, _ => false
end
def isTupE : Expr → Bool
  | .Tuple .. => true | _ => false
def blkFn (scope : Scope) : Str → Bool := fun x => scope.names.lookup x == some .cell && !(x == ("<lambda>" : Str))
def noPar (a : Arguments) : Bool := a.posonlyargs.isEmpty && a.args.isEmpty && a.vararg.isNone && a.kwonlyargs.isEmpty && a.kw_defaults.isEmpty && a.kwarg.isNone && a.defaults.isEmpty
def namesOf (sc : Scope) : List Str := sc.names.map (·.1)
def chkTy (Γ : Tab) : Ty → Str → Bool
  | .own c, y => (match Γ.cls[c]? with | some x => x == y | none => false)
  | .bi n, y => n == "ValueError" && y == ("ValueError" : Str)
  | t, y => isTy t && Str.ofString (tyS t) == y
/-- the k-th def stands in a class so, by that name -/
def ownB (Γ : Tab) (k : Nat) (kd : MK) (m : Str) : Bool := match Γ.fn[k]? with
  | some f => (match f.own with | some (_, kd', m') => decide (kd' = kd) && m' == m | none => false)
  | none => false
def newB (Γ : Tab) (k : Nat) (x : Str) : Bool := match Γ.fn[k]? with
  | some f => f.name == x && (match f.own with | some (_, .init, _) => true | _ => false)
  | none => false
def selfB (N : List Str) (sc : Scope) (i : Nat) (xs : List Str) (es : List Expr) : Bool := match N[i]? with
  | some x0 => visB sc x0 && !(x0 == ("__debug__" : Str)) && !(x0 == ("__classdict__" : Str)) && attrsB x0 xs es
  | none => false
theorem ownB_of {Γ : Tab} {k : Nat} {kd : MK} {m : Str} (h : ownB Γ k kd m = true) : ∃ f c, Γ.fn[k]? = some f ∧ f.own = some (c, kd, m) := by
  unfold ownB at h
  split at h
  · rename_i f hf
    split at h
    · rename_i c kd' m' e
      simp only [Bool.and_eq_true, decide_eq_true_eq, beq_iff_eq] at h
      obtain ⟨rfl, rfl⟩ := h
      exact ⟨f, c, hf, e⟩
    · cases h
  · cases h
theorem newB_of {Γ : Tab} {k : Nat} {x : Str} (h : newB Γ k x = true) : ∃ f c m, Γ.fn[k]? = some f ∧ f.name = x ∧ f.own = some (c, .init, m) := by
  unfold newB at h
  split at h
  · rename_i f hf
    simp only [Bool.and_eq_true, beq_iff_eq] at h
    obtain ⟨h1, h2⟩ := h
    split at h2
    · rename_i c m e
      exact ⟨f, c, m, hf, h1, e⟩
    · cases h2
  · cases h
def isZ : E → Bool
  | .int i => i == 0
  | _ => false
def isNil : Es → Bool
  | .nil => true
  | _ => false
section
variable (Γ : Tab) (N : List Str)
mutual
def chkE (sc : Scope) (fn : Str → Bool) : E → Expr → Bool
  | .var i, z' => (match z' with | .Name x _ => N[i]? == some x && visB sc x && !(x == ("__debug__" : Str)) && !(x == ("__classdict__" : Str)) | _ => false)
  | .non, z' => (match z' with | .Constant .none _ _ => true | _ => false)
  | .bl b, z' => (match z' with | .Constant (.bool b') _ _ => b == b' | _ => false)
  | .int i, z' => (match z' with | .Constant (.int j) _ _ => i == j | _ => false)
  | .str x, z' => (match z' with | .Constant (.str y) _ _ => x == y | _ => false)
  | .cst k, z' => (match z' with | .Name x _ => (match Γ.cst[k]? with | some c => c.1 == x | none => false) && glB sc x | _ => false)
  | .bin op a b, z' => (match z' with | .BinOp a' o b' _ => o == bopOf op && chkE sc fn a a' && chkE sc fn b b' | _ => false)
  | .neg a, z' => (match z' with | .UnaryOp .USub a' _ => chkE sc fn a a' | _ => false)
  | .not_ a, z' => (match z' with | .UnaryOp .Not a' _ => chkE sc fn a a' | _ => false)
  | .and_ a b, z' => (match z' with | .BoolOp .And [a', b'] _ => chkE sc fn a a' && chkE sc fn b b' | .BoolOp .And (a' :: b' :: c' :: r) p => chkE sc fn a a' && chkE sc fn b (.BoolOp .And (b' :: c' :: r) p) | _ => false)
  | .or_ a b, z' => (match z' with | .BoolOp .Or [a', b'] _ => chkE sc fn a a' && chkE sc fn b b' | .BoolOp .Or (a' :: b' :: c' :: r) p => chkE sc fn a a' && chkE sc fn b (.BoolOp .Or (b' :: c' :: r) p) | _ => false)
  | .ife c a b, z' => (match z' with | .IfExp c' a' b' _ => chkE sc fn c c' && chkE sc fn a a' && chkE sc fn b b' | _ => false)
  | .cmp op a b, z' => (match z' with | .Compare a' [o] [b'] _ => o == copOf op && chkE sc fn a a' && chkE sc fn b b' | _ => false)
  | .chain op op' a b c, z' => (match z' with | .Compare a' [o, o'] [b', c'] _ => o == copOf op && o' == copOf op' && chkE sc fn a a' && chkE sc fn b b' && chkE sc fn c c' | _ => false)
  | .tup es, z' => (match z' with | .Tuple es' _ _ => chkEs sc fn es es' | _ => false)
  | .lst _ es, z' => (match z' with | .List es' _ => chkEs sc fn es es' | _ => false)
  | .idx a i, z' => (match z' with | .Subscript a' i' _ => chkE sc fn a a' && chkE sc fn i i' | _ => false)
  | .slc a l h, z' => (match z' with | .Subscript a' (.Slice l' h' none _) _ => chkE sc fn a a' && chkO sc fn l l' && chkO sc fn h h' | _ => false)
  | .dic0, z' => (match z' with | .Dict [] [] _ => true | _ => false)
  | .rev a, z' => (match z' with | .Subscript a' (.Slice none none (some (.UnaryOp .USub (.Constant (.int 1) _ _) _)) _) _ => chkE sc fn a a' | _ => false)
  | .lstm a, z' => (match z' with | .Call (.Name x _) [a'] [] _ => x == ("list" : Str) && glB sc x && !starB a' && chkE sc fn a a' | _ => false)
  | .revm a, z' => (match z' with | .Subscript a' (.Slice none none (some (.UnaryOp .USub (.Constant (.int 1) _ _) _)) _) _ => chkE sc fn a a' | _ => false)
  | .sset a, z' => (match z' with | .Call (.Name x _) [.Call (.Name y _) [a'] [] _] [] _ => x == ("sorted" : Str) && y == ("set" : Str) && glB sc x && glB sc y && chkE sc fn a a' | _ => false)
  | .lenset a, z' => (match z' with | .Call (.Name x _) [.Call (.Name y _) [a'] [] _] [] _ => x == ("len" : Str) && y == ("set" : Str) && glB sc x && glB sc y && chkE sc fn a a' | _ => false)
  | .catl _ a b, z' => (match z' with | .BinOp a' .Add b' _ => chkE sc fn a a' && chkE sc fn b b' | _ => false)
  | .pop a, z' => (match z' with | .Call (.Attribute a' x ap) [] [] p => x == ("pop" : Str) && lineB ap p && okS a' && chkE sc fn a a' | _ => false)
  | .popi a e, z' => (match z' with | .Call (.Attribute a' x ap) [e'] [] p => x == ("pop" : Str) && lineB ap p && okS a' && chkE sc fn a a' && chkE sc fn e e' | _ => false)
  | .attr a x, z' => (match z' with | .Attribute a' x' _ => x == x' && okS a' && chkE sc fn a a' | _ => false)
  | .prop k a, z' => (match z' with | .Attribute a' x' _ => ownB Γ k .prop x' && okS a' && chkE sc fn a a' | _ => false)
  | .mcall k a es, z' => (match z' with | .Call (.Attribute a' x ap) es' [] p => ownB Γ k .meth x && lineB ap p && okS a' && es'.all (!starB ·) && decide (es'.length < 30) && chkE sc fn a a' && chkEs sc fn es es' | _ => false)
  | .new k es, z' => (match z' with | .Call (.Name x _) es' [] _ => newB Γ k x && glB sc x && es'.all (!starB ·) && chkEs sc fn es es' | _ => false)
  | .isin a c, z' => (match z' with | .Call (.Name x _) [a', .Name y _] [] _ => x == ("isinstance" : Str) && glB sc x && Γ.ins.contains (c, y) && glB sc y && chkE sc fn a a' | _ => false)
  | .dget a k d, z' => (match z' with | .Call (.Attribute a' x ap) [k', d'] [] p => x == ("get" : Str) && lineB ap p && okS a' && chkE sc fn a a' && chkE sc fn k k' && chkE sc fn d d' | _ => false)
  | .dnew, z' => (match z' with | .Dict [] [] _ => true | _ => false)
  | .split a e, z' => (match z' with | .Call (.Attribute a' x ap) [e'] [] p => x == ("split" : Str) && lineB ap p && okS a' && chkE sc fn a a' && chkE sc fn e e' | _ => false)
  | .tupr a b, z' => (match z' with | .Call (.Name x _) [.Call (.Name y _) [a', b'] [] _] [] _ => x == ("tuple" : Str) && y == ("range" : Str) && glB sc x && glB sc y && chkE sc fn a a' && chkE sc fn b b' | _ => false)
  | .nop, e' => okX e'
  | .slcm a l h, z' => (match z' with | .Subscript a' (.Slice l' h' none _) _ => chkE sc fn a a' && chkO sc fn l l' && chkO sc fn h h' | _ => false)
  | .call k es, z' => (match z' with | .Call (.Name x _) es' [] _ => (match Γ.fn[k]? with | some f => f.name == x && f.own.isNone | none => false) && glB sc x && es'.all (!starB ·) && chkEs sc fn es es' | _ => false)
  | .callk k es ks, z' => (match z' with | .Call (.Name x _) [] kws _ => isNil es && (match Γ.fn[k]? with | some f => f.name == x && f.kw && (kws.map (·.arg)) == f.par.map some && f.own.isNone | none => false) && glB sc x && chkKs sc fn ks kws | _ => false)
  | .bi b es, z' => (match z' with | .Call (.Name x _) es' [] _ => Str.ofString (biS b) == x && glB sc x && es'.all (!starB ·) && !es'.isEmpty && chkEs sc fn es es' | _ => false)
  | .isi a t, z' => (match z' with | .Call (.Name x _) [a', .Name y _] [] _ => x == ("isinstance" : Str) && glB sc x && chkTy Γ t y && glB sc y && chkE sc fn a a' | _ => false)
  | .fld a x, z' => (match z' with | .Attribute a' x' _ => x == ("value" : Str) && x == x' && okS a' && chkE sc fn a a' | _ => false)
  | .comp _ own t it c e, z' => (match z' with | .ListComp e' [⟨tg, it', ifs, 0⟩] scope _ => blkC N sc scope own && (slotsT t).all (fun i => (own.map (·.2)).contains i) && scope.kind == .function && chkI sc fn tg it it' && chkT N (relS scope sc) (blkFn scope) t tg && chkC (relS scope sc) (blkFn scope) c ifs && chkE (relS scope sc) (blkFn scope) e e' | _ => false)
  | .lst3 _ a b c, z' => (match z' with | .Call (.Name x _) [.Call (.Name y _) [a', b', c'] [] _] [] _ => x == ("list" : Str) && y == ("range" : Str) && glB sc x && glB sc y && chkE sc fn a a' && chkE sc fn b b' && chkE sc fn c c' | _ => false)
  | .lsti _ a b, z' => (match z' with | .Call (.Name x _) [.Call (.Name y _) [b'] [] _] [] _ => isZ a && x == ("list" : Str) && y == ("range" : Str) && glB sc x && glB sc y && chkE sc fn b b' | .Call (.Name x _) [.Call (.Name y _) [a', b'] [] _] [] _ => x == ("list" : Str) && y == ("range" : Str) && glB sc x && glB sc y && chkE sc fn a a' && chkE sc fn b b' | _ => false)
  | .app a e, z' => (match z' with | .Call (.Attribute a' x ap) [e'] [] p => x == ("append" : Str) && lineB ap p && okS a' && chkE sc fn a a' && chkE sc fn e e' | _ => false)
  | .ext a e, z' => (match z' with | .Call (.Attribute a' x ap) [e'] [] p => x == ("extend" : Str) && lineB ap p && okS a' && chkE sc fn a a' && chkE sc fn e e' | _ => false)
  | .join a e, z' => (match z' with | .Call (.Attribute a' x ap) [e'] [] p => x == ("join" : Str) && lineB ap p && okS a' && chkE sc fn a a' && chkE sc fn e e' | _ => false)
  | .hear _ c e, z' => (match z' with | .Call (.Name x _) [.Lambda params body scope _] [] _ => x == ("_law_heard" : Str) && glB sc "_law_heard" && decide (Γ.cls[c]? = some ("JobError" : Str)) && noPar params && LamX.lamSB sc scope && Γ.lams.contains N && fn "<lambda>" && chkE scope (fun _ => false) e body | _ => false)
  | .cnt a e, z' => (match z' with | .Call (.Attribute a' x ap) [e'] [] p => x == ("count" : Str) && lineB ap p && okS a' && chkE sc fn a a' && chkE sc fn e e' | _ => false)
def chkO (sc : Scope) (fn : Str → Bool) : Op → Option Expr → Bool
  | .no, none => true
  | .so e, some e' => chkE sc fn e e'
  | _, _ => false
def chkC (sc : Scope) (fn : Str → Bool) : Op → List Expr → Bool
  | .no, [] => true
  | .so e, [e'] => chkE sc fn e e'
  | _, _ => false
def chkEs (sc : Scope) (fn : Str → Bool) : Es → List Expr → Bool
  | .nil, [] => true
  | .cons e es, e' :: es' => chkE sc fn e e' && chkEs sc fn es es'
  | .star e es, .Starred e' _ :: es' => chkE sc fn e e' && chkEs sc fn es es'
  | _, _ => false
def chkKs (sc : Scope) (fn : Str → Bool) : Es → List Keyword → Bool
  | .nil, [] => true
  | .cons e es, ⟨some _, e', _⟩ :: es' => chkE sc fn e e' && chkKs sc fn es es'
  | _, _ => false
def chkI (sc : Scope) (fn : Str → Bool) (tg : Expr) : I → Expr → Bool
  | .seq e, e' => chkE sc fn e e'
  | .rng1 a, .Call (.Name x _) [a'] [] _ => x == ("range" : Str) && glB sc x && chkE sc fn a a'
  | .rng2 a b, .Call (.Name x _) [a', b'] [] _ => x == ("range" : Str) && glB sc x && chkE sc fn a a' && chkE sc fn b b'
  | .enum a, .Call (.Name x _) [a'] [] _ => x == ("enumerate" : Str) && glB sc x && isTupE tg && chkE sc fn a a'
  | .chr e, e' => chkE sc fn e e'
  | .rng3 a b c, .Call (.Name x _) [a', b', c'] [] _ => x == ("range" : Str) && glB sc x && chkE sc fn a a' && chkE sc fn b b' && chkE sc fn c c'
  | .zip a b, .Call (.Name x _) [a', b'] [] _ => x == ("zip" : Str) && glB sc x && isTupE tg && chkE sc fn a a' && chkE sc fn b b'
  | _, _ => false
end
mutual
def chkS (sc : Scope) (fn : Str → Bool) : S → Stmt → Bool
  | .ex e, .Expr e' _ => notC e' && chkE Γ N sc fn e e'
  | .pass, .Expr (.Constant (.str _) _ _) _ => true
  | .asgc i e, .Assign [.Name y py] (.ListComp e1 gs scope p) _ => (match e with | .comp .. => true | _ => false) && swC sc y py scope p && bndB N sc fn i y && chkE Γ N sc fn e (.ListComp e1 gs scope p)
  | .par i j a b, .Assign [.Tuple [.Name x px, .Name y py] _ _] (.Tuple [a', b'] _ _) _ => bndB N sc fn i x && bndB N sc fn j y && locB sc x && locB sc y && !(i == j) && swapB sc [.Name x px, .Name y py] [a', b'] == some (some [x, y]) && !starB a' && !starB b' && chkE Γ N sc fn a a' && chkE Γ N sc fn b b'
  | .par3 i j l a b c, .Assign [.Tuple [.Name x px, .Name y py, .Name z pz] _ _] (.Tuple [a', b', c'] _ _) _ => bndB N sc fn i x && bndB N sc fn j y && bndB N sc fn l z && locB sc x && locB sc y && locB sc z && !(i == j) && !(i == l) && !(j == l) &&
      swapB sc [.Name x px, .Name y py, .Name z pz] [a', b', c'] == some (some [x, y, z]) && !starB a' && !starB b' && !starB c' && chkE Γ N sc fn a a' && chkE Γ N sc fn b b' && chkE Γ N sc fn c c'
  | .asgl ts e, .Assign [.Tuple es k p] e' _ => chkTs N sc fn ts es && swOk sc (.Tuple es k p) e' && swapNone sc (.Tuple es k p) e' && chkE Γ N sc fn e e'
  | .asg t e, .Assign [tg] e' _ => chkT N sc fn t tg && swOk sc tg e' && swapNone sc tg e' && chkE Γ N sc fn e e'
  | .seti o i e, .Assign [.Subscript o' i' _] e' _ => swOk sc (.Subscript o' i' ⟨0, 0, 0, 0⟩) e' && okX i' && chkE Γ N sc fn o o' && chkE Γ N sc fn i i' && chkE Γ N sc fn e e'
  | .sattr o x e, .Assign [.Attribute o' x' _] e' _ => x == x' && okS o' && okX e' && chkE Γ N sc fn o o' && chkE Γ N sc fn e e'
  | .sattrs i xs e, .Assign [.Tuple es _ _] e' _ => selfB N sc i xs es && !xs.isEmpty && notC e' && notTup e' && chkE Γ N sc fn e e'
  | .ret e, .Return (some e') _ => chkE Γ N sc fn e e'
  | .retn, .Return none _ => true
  | .if_ c a b, .If c' a' b' _ => chkE Γ N sc fn c c' && chkSs sc fn a a' && chkSs sc fn b b'
  | .for_ t it b, .For tg it' b' [] _ => chkT N sc fn t tg && chkI Γ N sc fn tg it it' && chkSs sc fn b b'
  | .while_ c b, .While c' b' [] _ => chkE Γ N sc fn c c' && chkSs sc fn b b'
  | .rs c e, .Raise (some (.Call (.Name x _) [e'] [] _)) none _ => (match Γ.cls[c]? with | some y => y == x | none => false) && glB sc x && chkE Γ N sc fn e e'
  | .try_ c i b j, .Try b' [.ExceptHandler (some (.Name x _)) (some n) [.Assign [.Name y _] (.Name n' _) _] _] [] [] _ => (match Γ.cls[c]? with | some y => y == x | none => false) && glB sc x && bndB N sc fn i n && locB sc n && bndB N sc fn j y && n == n' && !(i == j) && !(n == ("__debug__" : Str)) && !(n == ("__classdict__" : Str)) && chkSs sc fn b b'
  | .pass, .Pass _ => true
  | .brk, .Break _ => true
  | .cont, .Continue _ => true
  | _, _ => false
def chkSs (sc : Scope) (fn : Str → Bool) : Ss → List Stmt → Bool
  | .nil, [] => true
  | .cons s ss, s' :: ss' => chkS sc fn s s' && chkSs sc fn ss ss'
  | _, _ => false
end
end
end AA
/-! AA8x: exceptions of own classes: read, asked for their class, caught and kept. -/
namespace AA
open PySem PySem.Spec L2
open PyProof.Rows hiding St

/-- what an own exception class at C says -/
structure ExcK (K : PySem.W.Frag) (C : Addr) : Prop where
  ga : PySem.W.findIn K (.ref C) "__getattribute__" = some (some (.builtin "BaseException.__getattribute__"))
  gg : PySem.W.findIn K (.ref C) "__getattr__" = some none
  sb : PySem.W.subIn K (.ref C) (.type "BaseException") = some true
  hd : PySem.W.hasDictIn K C = true
  cl : PySem.W.findIn K (.ref C) "__class__" = some (some (.builtin "object.__class__"))
  gs : PySem.W.specialIn K (.builtin "object.__class__") "__get__" = some (some (.builtin "getset_descriptor.__get__"))
  tk : PySem.W.takesIn K (.builtin "object.__class__") = some true
  mr : PySem.W.mroIn K C (.type "object") = some true
  nv : PySem.W.findIn K (.ref C) "value" = some none
section
variable {X : Cx} {cad : Cad} {W : WX} {pos : Pos}
theorem exc_there {pins : List (Addr × Obj)} {σ : L2.St} {H : Hp} {s : Shared} {a dx C : Addr} {dv : V} (I : Inv X pins σ H s) (h1 : H a = some (ExcO (.ref C) dx a)) (h2 : H dx = some (.xd [("value", dv)])) :
    ∃ oe od u, PySem.W.InstAt s.heap a oe C (some od) ∧ PySem.W.lookIn "value" od = some (some u) ∧ RelV dv u := by
  obtain ⟨⟨oe, vs, e1, z, e2⟩, _⟩ := (show ObjOk X.prog X.w H s.heap a (ExcO (.ref C) dx a) from I.hok a _ h1)
  obtain ⟨mA, hns, hr⟩ := (show ObjOk X.prog X.w H s.heap dx (.xd [("value", dv)]) from I.hok dx _ h2)
  obtain ⟨od, ho, hl⟩ := lookIn_ns hns
  have l : List.lookup ("value" : Str) [(("value" : Str), dv)] = some dv := by simp [List.lookup]
  obtain ⟨u, hu, ru⟩ := RelO.some_of (v := dv) (o := mA "value") (by rw [← l]; exact hr "value")
  exact ⟨oe, od, u, ⟨e1, z.1, by unfold PySem.W.notCls; rw [e2] <;> rfl, by rw [z.2]; exact ho⟩, by rw [hl, hu], ru⟩
/-- e.value -/
theorem u_fld {Γ : Tab} {e : Expr} {e' : E} (hf : ∀ c, c < Γ.cls.length → ExcK X.K (cad c)) (h : PEU X cad W e (wpE Γ e')) (hb : attributeBase e "value" X.env (eval e X.env) = eval e X.env) : PEU X cad W (.Attribute e "value" pos) (wpE Γ (.fld e' "value")) := by
  refine ⟨fun pins s σ H Qv I ⟨ρ, δ, α, M, Q', X', rs, rm, t, hq, hx⟩ => ?_⟩
  simp only [wpE] at t
  refine attr_of hb (thn (h.run pins s σ H (fun v H1 => ∃ a dx C dv, v = .ref a ∧ ExcK X.K C ∧ H1 a = some (ExcO (.ref C) dx a) ∧ H1 dx = some (.xd [("value", dv)]) ∧ Qv dv H1) I ⟨ρ, δ, α, M, _, _, rs, rm, t, fun d M1 q v H1 α1 n1 r1 m1 => ?_, hx⟩) fun u s1 hh => ?_)
  · cases d with
    | exc c d =>
      obtain ⟨hc, _, q⟩ := q
      obtain ⟨a, dx, dv, rfl, na, ra, ha, nd, rd, hd, r⟩ := r1
      exact ⟨a, dx, _, dv, rfl, hf c hc, ha, hd, hq _ _ q _ _ _ n1 r m1⟩
    | _ => exact q.elim
  · obtain ⟨x, H1, I1, rx, a, dx, C, dv, ex, F, h1, h2, q⟩ := hh
    subst ex
    obtain rfl : u = Value.ref a := rx
    obtain ⟨oe, od, w, J, hl, rw_⟩ := exc_there I1 h1 h2
    exact HandSPX.exc_get I1.kIn J F.ga F.gg F.sb (PySem.W.findObj_own F.hd F.nv rfl hl) (handed_of rw_) ⟨dv, H1, I1.tok _, rw_, q⟩
/-- isinstance of a caught exception, or of a plain datum -/
def rIsiE (K : PySem.W.Frag) : List V → Hp → VK → Prop := fun xs H Q => rIsi K xs H Q ∨ ∃ (a dx C : Addr) (dv c : V) (cv : Value) (b : Bool), xs = [.ref a, c] ∧ ExcK K C ∧ H a = some (ExcO (.ref C) dx a) ∧ H dx = some (.xd [("value", dv)]) ∧ ClsV c cv ∧ PySem.W.kitOne K (.ref C) cv = some b ∧ Q (.bl b) H
theorem call_isiE : CallR X (.builtin "isinstance") (rIsiE X.K) := by
  intro pins s σ H xs us Q I r h
  rcases h with h | ⟨a, dx, C, dv, c, cv, b, rfl, F, h1, h2, hc, e, q⟩
  · exact call_isi pins s σ H xs us Q I r h
  · obtain ⟨u1, u2, rfl, r1, r2⟩ := vals2 r
    have e2 := hc.eq r2
    subst e2
    obtain rfl : u1 = Value.ref a := r1
    obtain ⟨oe, od, w, J, hl, _⟩ := exc_there I h1 h2
    have hcl : (PySem.W.clsIn X.K C).isSome = true := by
      obtain ⟨cd, hc, _⟩ := PySem.W.any_some F.hd
      rw [hc]; rfl
    exact PySem.W.kia_one (PySem.W.kitx_exc (ox := oe) (od := some od) hcl F.ga F.gg F.sb F.cl F.gs F.tk F.mr) I.kIn J e (fun z => nomatch z) fun tk => ⟨.bl b, H, I.tok tk, rfl, q⟩
/-- the plain types' names -/
def plainTy : List String := ["NoneType", "bool", "int", "str", "tuple", "list", "dict"]
/-- an own class as it is asked for -/
structure ClsK (K : PySem.W.Frag) (mg : Str → Option Value) (cad : Cad) (nc : Nat) (sub : Nat → Nat → Bool) (c : Nat) (x : Str) : Prop where
  mg : mg x = some (.ref (cad c))
  dbg : (x == ("__debug__" : Str)) = false
  kit : ∀ c', c' < nc → PySem.W.kitOne K (.ref (cad c')) (.ref (cad c)) = some (sub c' c)
  exm : ∀ c', c' < nc → PySem.W.exmOne K (.ref (cad c')) (.ref (cad c)) = some (sub c' c)
  pl : ∀ n ∈ plainTy, PySem.W.kitOne K (.type n) (.ref (cad c)) = some false
theorem tyN_pl {M : Mem} {d : D} {n : String} (e : tyN M d = some n) : n ∈ plainTy := by
  cases d <;> simp only [tyN] at e <;> first
    | (cases e; simp [plainTy]; done)
    | (cases e; done)
    | (split at e
       · cases e; simp [plainTy]
       · cases e; simp [plainTy]
       · cases e)
theorem isiD_own {c nc : Nat} {x : D} {M : Mem} {sub : Nat → Nat → Bool} {k : Bool → Prop} (h : isiD nc (.own c) x M sub k) : (∃ n, tyN M x = some n ∧ k false) ∨ ∃ c' d, x = .exc c' d ∧ c' < nc ∧ k (sub c' c) := by
  cases x <;> simp only [isiD] at h <;> first
    | exact .inl ⟨_, rfl, h⟩
    | exact .inr ⟨_, _, rfl, h⟩
    | (split at h
       · rename_i xs hm
         exact .inl ⟨"list", by simp only [tyN, hm], h⟩
       · exact h.elim)
theorem u_isiO {Γ : Tab} {c : Nat} {y : Str} {a : Expr} {a' : E} {p p2 : Pos} (hf : ∀ c, c < Γ.cls.length → ExcK X.K (cad c)) (hk : ClsK X.K X.mg cad Γ.cls.length Γ.sub c y) (hm : X.mg "isinstance" = none) (hg : Gl X "isinstance") (hg2 : Gl X y) (ha : PEU X cad W a (wpE Γ a'))
    (hs : starEach [a, .Name y p2] X.env = (false, eval a X.env) :: starEach [.Name y p2] X.env) : PEU X cad W (.Call (.Name "isinstance" p) [a, .Name y p2] [] pos) (wpE Γ (.isi a' (.own c))) := by
  have q := pe_callB (p := p) (pos := pos) call_isiE hg hm isi_boot (pa_cons ha (pa_cons (pe_glob (pos := p2) hg2 hk.mg (v := .ref (cad c)) rfl hk.dbg) pa_nil (by rfl)) hs) (by decide) (by decide) hs (by rfl)
  refine q.mono fun σ H Qv ⟨ρ, δ, α, M, Q', X', rs, rm, t0, hq, hx⟩ => ?_
  simp only [wpE] at t0
  refine ⟨ρ, δ, α, M, _, _, rs, rm, t0, fun x M1 q v H1 α1 n1 r1 m1 => ?_, hx⟩
  rcases isiD_own q with ⟨n, h1, h2⟩ | ⟨c', d, rfl, h1, h2⟩
  · exact .inl ⟨v, _, _, _, false, rfl, .own _, tyN_of m1 r1 h1, hk.pl n (tyN_pl h1), hq _ _ h2 _ _ _ n1 rfl m1⟩
  · obtain ⟨b, dx, dv, rfl, na, ra, ha, nd, rd, hd, r⟩ := r1
    exact .inr ⟨b, dx, _, dv, _, _, _, rfl, hf c' h1, ha, hd, .own _, hk.kit c' h1, hq _ _ h2 _ _ _ n1 rfl m1⟩
theorem ve_boot : bootBuiltins "ValueError" = some (.type "ValueError") := by decide +kernel
theorem u_isiV {Γ : Tab} {a : Expr} {a' : E} {p p2 : Pos} (hf : ∀ c, c < Γ.cls.length → ExcK X.K (cad c)) (hv : ∀ c, c < Γ.cls.length → PySem.W.kitOne X.K (.ref (cad c)) (.type "ValueError") = some true) (hm : X.mg "isinstance" = none) (hm2 : X.mg "ValueError" = none) (hg : Gl X "isinstance") (hg2 : Gl X "ValueError")
    (ha : PEU X cad W a (wpE Γ a')) (hs : starEach [a, .Name "ValueError" p2] X.env = (false, eval a X.env) :: starEach [.Name "ValueError" p2] X.env) : PEU X cad W (.Call (.Name "isinstance" p) [a, .Name "ValueError" p2] [] pos) (wpE Γ (.isi a' (.bi "ValueError"))) := by
  have q := pe_callB (p := p) (pos := pos) call_isiE hg hm isi_boot (pa_cons ha (pa_cons (pe_bltn (pos := p2) hg2 hm2 ve_boot (v := .ty "ValueError") rfl) pa_nil (by rfl)) hs) (by decide) (by decide) hs (by rfl)
  refine q.mono fun σ H Qv ⟨ρ, δ, α, M, Q', X', rs, rm, t0, hq, hx⟩ => ?_
  simp only [wpE] at t0
  refine ⟨ρ, δ, α, M, _, _, rs, rm, t0, fun x M1 q v H1 α1 n1 r1 m1 => ?_, hx⟩
  cases x with
  | non =>
    obtain ⟨_, q⟩ := q
    exact .inl ⟨v, _, _, _, false, rfl, .ty _, tyN_of (n := "NoneType") m1 r1 rfl, kit_ty (by decide +kernel), hq _ _ q _ _ _ n1 rfl m1⟩
  | exc c' d =>
    obtain ⟨h1, _, h2⟩ := q
    obtain ⟨b, dx, dv, rfl, na, ra, ha, nd, rd, hd, r⟩ := r1
    exact .inr ⟨b, dx, _, dv, _, _, _, rfl, hf c' h1, ha, hd, .ty _, hv c' h1, hq _ _ h2 _ _ _ n1 rfl m1⟩
  | _ => exact q.elim

/-! ### list(..), numbered -/
theorem ls_boot : bootBuiltins "list" = some (.type "list") := by decide +kernel
theorem u_lstm {Γ : Tab} {a : Expr} {a' : E} {p : Pos} (hg : Gl X "list") (hm : X.mg "list" = none) (ha : PEU X cad W a (wpE Γ a')) (hs : starEach [a] X.env = (false, eval a X.env) :: starEach [] X.env) : PEU X cad W (.Call (.Name "list" p) [a] [] pos) (wpE Γ (.lstm a')) := by
  have q := pe_callTy (p := p) (pos := pos) call_list_of hg hm ls_boot (pa_cons ha pa_nil hs) (by decide) (by decide) hs (by rfl)
  refine q.mono fun σ H Qv ⟨ρ, δ, α, M, Q', X', rs, rm, t, hq, hx⟩ => ?_
  simp only [wpE] at t
  refine ⟨ρ, δ, α, M, _, _, rs, rm, t, fun x M1 q v H1 α1 n1 r1 m1 => ?_, hx⟩
  obtain ⟨xs, e, q2⟩ := q.inv
  obtain ⟨b, vs, rfl, sq, rs1⟩ := seq_of m1 r1 e
  exact ⟨b, vs, rfl, sq, fun p hp => new_num m1 rs1 q2 (fun d M' z => (hq d M' z).nx n1) p hp⟩
/-! ### list(range(..)) -/
theorem rng_ints (lo : Int) (n : Nat) : rngL lo n = ((List.range n).map fun i => lo + (i : Nat)).map D.int := by unfold rngL; rw [List.map_map]; rfl
theorem rgV_ints (a b : Int) : rgV a b = ((List.range (b - a).toNat).map fun i => a + (i : Nat)).map V.int := by unfold rgV; rw [List.map_map]; rfl
theorem new_rng {ρ α : List Addr} {H : Hp} {M : Mem} {m : Bool} {i j : Int} {Q : DK} {Qv : VK} (rm : RM (gx X cad) ρ H α M) (h : if m = true then Q (.ref M.length) (M ++ [.lst (rngL i (j - i).toNat)]) else Q (.lst (rngL i (j - i).toNat)) M)
    (hq : ∀ d M', Q d M' → wv (gx X cad) ρ α H Qv d M') {q : Addr} (hn : H q = none) : Qv (.ref q) (upd H q (.lst (rgV i j))) := by
  have rs : ∀ (H' : Hp) (α' : List Addr), RDs (gx X cad) ρ H' α' (rngL i (j - i).toNat) (rgV i j) := fun H' α' => by rw [rng_ints, rgV_ints]; exact RDs.of_ints _
  cases m with
  | true =>
    simp only [if_true] at h
    have nn : Nx [] α H (α ++ [q]) (upd H q (.lst (rgV i j))) := Nx.num hn
    refine hq _ _ h _ _ _ nn ⟨q, rfl, ?_⟩ (rm.num hn ⟨_, upd_same, rs _ _⟩)
    rw [← rm.len, List.getElem?_append_right (Nat.le_refl _)]
    simp
  | false =>
    simp only [Bool.false_eq_true, if_false] at h
    refine hq _ _ h _ _ _ (Nx.new hn) ⟨q, _, rfl, .inl ⟨?_, ?_, .inl upd_same⟩, rs _ _⟩ (rm.new hn)
    · exact fun z => by obtain ⟨u, e⟩ := rm.mem z; rw [hn] at e; cases e
    · exact fun z => rm.rho _ z (.inl hn)
theorem u_lsti1 {Γ : Tab} {b : Expr} {b' : E} {m : Bool} {p p2 pos2 : Pos} (hc : X.calm = true) (hg : Gl X "list") (hm : X.mg "list" = none) (hg2 : Gl X "range") (hm2 : X.mg "range" = none) (h : PEU X cad W b (wpE Γ b')) (nb : starEach [b] X.env = (false, eval b X.env) :: starEach [] X.env) :
    PEU X cad W (.Call (.Name "list" p) [.Call (.Name "range" p2) [b] [] pos2] [] pos) (wpE Γ (.lsti m (.int 0) b')) :=
  (pe_listRg (p := p) (pos := pos) hc hg hm (prg_1 (p := p2) (pos := pos2) hg2 hm2 h nb)).mono fun σ H Qv ⟨ρ, δ, α, M, Q', X', rs, rm, t, hq, hx⟩ => by
    simp only [wpE] at t
    refine ⟨ρ, δ, α, M, _, _, rs, rm, t, fun x M1 q v H1 α1 n1 r1 m1 => ?_, hx⟩
    obtain ⟨i, ei, q⟩ := q.inv
    cases ei
    obtain ⟨j, rfl, b1, b2, b3, q⟩ := q.inv
    cases r1
    exact ⟨j, rfl, ⟨b1.1, b1.2, b2.1, b2.2, b3⟩, fun q0 hn => new_rng m1 q (fun d M' z => (hq d M' z).nx n1) hn⟩
theorem u_lsti2 {Γ : Tab} {a b : Expr} {a' b' : E} {m : Bool} {p p2 pos2 : Pos} (hc : X.calm = true) (hg : Gl X "list") (hm : X.mg "list" = none) (hg2 : Gl X "range") (hm2 : X.mg "range" = none) (ha : PEU X cad W a (wpE Γ a')) (h : PEU X cad W b (wpE Γ b'))
    (na : starEach [a, b] X.env = (false, eval a X.env) :: starEach [b] X.env) (nb : starEach [b] X.env = (false, eval b X.env) :: starEach [] X.env) :
    PEU X cad W (.Call (.Name "list" p) [.Call (.Name "range" p2) [a, b] [] pos2] [] pos) (wpE Γ (.lsti m a' b')) :=
  (pe_listRg (p := p) (pos := pos) hc hg hm (prg_2 (p := p2) (pos := pos2) hg2 hm2 ha h na nb (by rw [nb]; rfl))).mono fun σ H Qv ⟨ρ, δ, α, M, Q', X', rs, rm, t, hq, hx⟩ => by
    simp only [wpE] at t
    refine ⟨ρ, δ, α, M, _, _, rs, rm, t, fun x M1 q v H1 α1 n1 r1 m1 => ?_, hx⟩
    refine ⟨ρ, δ, α1, M1, _, _, rs.nx n1, m1, q, fun y M2 q u H2 α2 n2 r2 m2 => ?_, fun c d M' x => (hx c d M' x).nx n1⟩
    obtain ⟨i, rfl, qa⟩ := q.inv
    obtain ⟨j, rfl, b1, b2, b3, qb⟩ := qa.inv
    cases r1
    cases r2
    exact ⟨i, j, rfl, rfl, ⟨b1.1, b1.2, b2.1, b2.2, b3⟩, fun q0 hn => new_rng m2 qb (fun d M' z => (hq d M' z).nx (n1.trans n2)) hn⟩

theorem rngC_ints (lo c : Int) (n : Nat) : rngC lo c n = ((List.range n).map fun i => lo + (i : Nat) * c).map D.int := by unfold rngC; rw [List.map_map]; rfl
def rgCV (lo c : Int) (n : Nat) : List V := ((List.range n).map fun i => lo + (i : Nat) * c).map V.int
theorem vals_rgC {lo c : Int} {n : Nat} {acc : Array Value} (h : ItemsOf (fun i v => ∃ t, v = .int (lo + i * c) t) acc n) : Vals (rgCV lo c n) acc.toList := by
  have e : acc.toList.length = n := by rw [Array.length_toList]; exact h.1
  unfold rgCV
  rw [List.map_map, ← e]
  refine vals_of_get acc.toList _ fun j u hj => ?_
  obtain ⟨t, rfl⟩ := h.2 j u (by rw [← hj, Array.getElem?_toList])
  exact ⟨t, rfl⟩
theorem new_rngC {ρ α : List Addr} {H : Hp} {M : Mem} {m : Bool} {i l : Int} {n : Nat} {Q : DK} {Qv : VK} (rm : RM (gx X cad) ρ H α M) (h : if m = true then Q (.ref M.length) (M ++ [.lst (rngC i l n)]) else Q (.lst (rngC i l n)) M)
    (hq : ∀ d M', Q d M' → wv (gx X cad) ρ α H Qv d M') {q : Addr} (hn : H q = none) : Qv (.ref q) (upd H q (.lst (rgCV i l n))) := by
  have rs : ∀ (H' : Hp) (α' : List Addr), RDs (gx X cad) ρ H' α' (rngC i l n) (rgCV i l n) := fun H' α' => by rw [rngC_ints]; exact RDs.of_ints _
  cases m with
  | true =>
    simp only [if_true] at h
    have nn : Nx [] α H (α ++ [q]) (upd H q (.lst (rgCV i l n))) := Nx.num hn
    refine hq _ _ h _ _ _ nn ⟨q, rfl, ?_⟩ (rm.num hn ⟨_, upd_same, rs _ _⟩)
    rw [← rm.len, List.getElem?_append_right (Nat.le_refl _)]
    simp
  | false =>
    simp only [Bool.false_eq_true, if_false] at h
    refine hq _ _ h _ _ _ (Nx.new hn) ⟨q, _, rfl, .inl ⟨?_, ?_, .inl upd_same⟩, rs _ _⟩ (rm.new hn)
    · exact fun z => by obtain ⟨u, e⟩ := rm.mem z; rw [hn] at e; cases e
    · exact fun z => rm.rho _ z (.inl hn)
theorem u_lst3 {Γ : Tab} {a b c : Expr} {a' b' c' : E} {m : Bool} {p p2 pos2 : Pos} (hc : X.calm = true) (hg : Gl X "list") (hm : X.mg "list" = none) (hg2 : Gl X "range") (hm2 : X.mg "range" = none) (ha : PEU X cad W a (wpE Γ a')) (hb : PEU X cad W b (wpE Γ b')) (hcc : PEU X cad W c (wpE Γ c'))
    (na : starEach [a, b, c] X.env = (false, eval a X.env) :: starEach [b, c] X.env) (nb : starEach [b, c] X.env = (false, eval b X.env) :: starEach [c] X.env) (nc : starEach [c] X.env = (false, eval c X.env) :: starEach [] X.env) :
    PEU X cad W (.Call (.Name "list" p) [.Call (.Name "range" p2) [a, b, c] [] pos2] [] pos) (wpE Γ (.lst3 m a' b' c')) := by
  refine ⟨fun pins s σ H Qv I ⟨ρ, δ, α, M, Q', X', rs, rm, t, hq, hx⟩ => ?_⟩
  simp only [wpE] at t
  have args := pa_cons ha (pa_cons hb (pa_cons hcc pa_nil nc) nb) na
  have inner : wpAny (model X.prog X.w) X.A (eval (.Call (.Name "range" p2) [a, b, c] [] pos2) X.env)
      (fun x s' => ∃ r i j k n t u v H', x = .ref r ∧ IsRange s'.heap r i j k t u v ∧ Inv X pins σ H' s' ∧ RgC i j k n ∧ n ≤ 16777216 ∧ ∀ q, H' q = none → Qv (.ref q) (upd H' q (.lst (rgCV i k n)))) X.xe s := by
    refine Call_ (ld_blt I hg2 hm2 boot_range (PyProof.Rows.callWith_type1 (thn (args.run pos2 pins s σ H (fun vs H1 => ∃ i j k n, vs = [.int i, .int j, .int k] ∧ RgC i j k n ∧ n ≤ 16777216 ∧ ∀ q, H1 q = none → Qv (.ref q) (upd H1 q (.lst (rgCV i k n)))) I ?_) fun us s1 ⟨vs, H1, I1, r1, q1⟩ => ?_) na (by rw [nb, nc]; rfl)))
    · refine ⟨ρ, δ, α, M, _, _, rs, rm, t, fun x M1 q v H1 α1 n1 r1 m1 => ?_, hx⟩
      refine ⟨ρ, δ, α1, M1, _, _, rs.nx n1, m1, q, fun y M2 q2 u H2 α2 n2 r2 m2 => ?_, fun c d M' x => (hx c d M' x).nx n1⟩
      refine ⟨ρ, δ, α2, M2, _, _, rs.nx (n1.trans n2), m2, q2, fun z M3 q3 w H3 α3 n3 r3 m3 => ?_, fun c d M' x => (hx c d M' x).nx (n1.trans n2)⟩
      obtain ⟨i, rfl, q4⟩ := q3.inv
      obtain ⟨j, rfl, q5⟩ := q4.inv
      obtain ⟨l, rfl, n, hr, hn, q6⟩ := q5.inv
      cases r1; cases r2; cases r3
      exact ⟨i, j, l, n, rfl, hr, hn, fun q0 hq0 => new_rngC m3 q6 (fun d M' z => (hq d M' z).nx ((n1.trans n2).trans n3)) hq0⟩
    · obtain ⟨i, j, k, n, e, rg, hn, q⟩ := q1
      subst e
      cases r1 with
      | cons r rr =>
        cases rr with
        | cons r' rr =>
          cases rr with
          | cons r'' rr =>
            cases rr
            obtain ⟨t, rfl⟩ := r
            obtain ⟨t', rfl⟩ := r'
            obtain ⟨t'', rfl⟩ := r''
            exact call_range_3 rg.1 ⟨_, i, j, k, n, _, _, _, H1, rfl, IsRange.new _ _ _ _ _ _ _, I1.kept fun b u e => Heap.get?_push_of_some _ e, rg, hn, q⟩ (.inl (PyProof.noPylong_small rg.2.1))
  refine Call_ (ld_blt I hg hm boot_list (PyProof.Rows.callWith_type1 (args_cons (thn inner fun x s1 ⟨r, i, j, k, n, t, u, v, H1, ex, hr, I1, rg, hn, q⟩ => args_nil ?_) (by rfl)) (by rfl)))
  subst ex
  refine call_list_range (n := n) (I1.ok.hd hc) hr rg.2.2.1 rg.2.2.2 (by omega) fun h2 tk acc c2 hk e2 hi => ?_
  refine ⟨.ref s1.heap.objs.size, upd H1 s1.heap.objs.size (.lst (rgCV i k n)), I1.laid hk (Nat.le_refl _) (show ObjOk X.prog X.w _ _ _ (.lst (rgCV i k n)) from ⟨?_, acc.toList, c2, vals_rgC hi, ?_⟩), rfl, q _ (I1.hok.fresh (Nat.le_refl _))⟩
  · unfold rgCV; rw [List.length_map, List.length_map, List.length_range, sizeLine_eq]; exact hn
  · rw [Array.toArray_toList]; exact e2

/-! ### caught and kept -/
/-- the caught exception becomes a tracked thing -/
theorem keep_exc {pins : List (Addr × Obj)} {σ : L2.St} {H : Hp} {s : Shared} {a dx : Addr} {oe : Obj} {cls : Value} {vs : Array Value} {pn : List (Addr × Obj)} (I : Inv (X.suite a ((a, oe) :: pn)) [] σ H s) (hz : Zc cls (some dx) oe) (hd : oe.data = .fields vs) (nz : X.s_0.heap.get? a = none) (np : ∀ p ∈ pn, p.1 ≠ a) :
    Inv (X.suite a pn) [] σ (upd H a (ExcO cls dx a)) s := by
  obtain ⟨e1, na, nL, nF, _⟩ := I.pin (a, oe) (List.mem_append_left _ List.mem_cons_self)
  have ne : ∀ b u, H b = some u → b ≠ a := fun b u e z => by rw [z] at e; rw [na] at e; cases e
  have nc : ∀ x c, X.env.cells.lookup x = some c → c ≠ a := fun x c e z => by
    obtain ⟨v, hv⟩ := I.cell x c e
    obtain ⟨o, h1, h2⟩ : ∃ o, s.heap.get? c = some o ∧ o.data = .cell v := by
      first | exact hv | exact ⟨_, hv.1, hv.2⟩ | (obtain ⟨o, h⟩ := hv; exact ⟨o, h⟩)
    rw [z, e1] at h1; cases h1
    rw [hd] at h2; cases h2
  refine ⟨⟨I.ok.mod, I.ok.kind, I.ok.glob, I.ok.blt, I.ok.above, I.ok.inj, I.ok.has, I.ok.cab, I.ok.hd, I.ok.frames, I.ok.stk, I.ok.exf, I.ok.bs, I.ok.bsz, I.ok.noex, I.ok.exfs, I.ok.funs, I.ok.frf⟩, I.os, I.bare, ?_, I.loc, I.cell, ?_, fun x c e => ?_, fun p hp => ?_, fun b u e => ?_, I.len⟩
  · obtain ⟨k1, k2, k3, k4, k5, k6, k7⟩ := I.base
    refine ⟨k1, k2, fun b o e n hx => ?_, k4, fun b xs e => ?_, fun b o u e => ?_, fun b ps e => ?_⟩
    · rw [upd_ne]
      · exact k3 b o e n hx
      · intro z
        rw [z] at e
        exact absurd ((show X.s_0.heap.get? a = some o from e).symm.trans nz) (by simp)
    · have z := k5 b xs e; rw [upd_ne (ne _ _ z)]; exact z
    · have z := k6 b o u e; rw [upd_ne (ne _ _ z)]; exact z
    · obtain ⟨more, z⟩ := k7 b ps e
      exact ⟨more, by rw [upd_ne (ne _ _ z)]; exact z⟩
  · rw [upd_ne (Ne.symm nL)]; exact I.free
  · rw [upd_ne (nc x c e)]; exact I.freeC x c e
  · have hp' : p ∈ pn := by rw [List.append_nil] at hp; exact hp
    obtain ⟨q1, q2, q3⟩ := I.pin p (List.mem_append_left _ (List.mem_cons_of_mem _ hp'))
    exact ⟨q1, by rw [upd_ne (np p hp')]; exact q2, q3⟩
  · by_cases hb : b = a
    · subst hb
      rw [upd_same] at e; cases e
      exact ⟨⟨oe, vs, e1, hz, hd⟩, ⟨oe, e1⟩, fun h1 h2 ⟨o', vs', w1, w2, w3⟩ k => ⟨o', vs', k _ w1, w2, w3⟩⟩
    · rw [upd_ne hb] at e
      refine (I.hok b u e).stay (fun c w _ q => q) (fun c q => ?_) fun c xs q => ?_
      · rw [upd_ne (ne _ _ q)]; exact q
      · rw [upd_ne (ne _ _ q)]; exact q
end
end AA
/-! AA8y: try .. except C as n: m = n, and raise. -/
namespace AA
open PySem PySem.Spec L2
open PyProof.Rows hiding St

/-- what the clause wishes: the exception is tracked from there on -/
def wKeep (K : PySem.W.Frag) (nl : Nat) (c : Value) (i : Nat) (ts : TS) (Wout : WX) (D : Ends) : WX := fun cls d σ H =>
  ∃ b, PySem.W.exmOne K cls c = some b ∧ (b = true → σ.length = nl → ∃ dx, d = some dx ∧ ∀ a, H a = none → ts { nx := fun σ' H' => D.nx (σ'.set i none) H', rt := D.rt, bk := fun σ' H' => D.bk (σ'.set i none) H', ct := fun σ' H' => D.ct (σ'.set i none) H' } (σ.set i (some (.ref a))) (upd H a (ExcO cls dx a))) ∧
    (b = false → Wout cls d σ H)
section
variable {X : Cx} {x n : Str} {c : Value} {i : Nat} {body suite : List Stmt} {b₀ : Stmt} {np pos pos' : Pos} {tb : WX → TS} {ts : TS} {Wout : WX}
theorem ps_try_keep (hs : X.stack = X.env :: X.outer) (hf : X.env.frame = some X.env.locals) (hex : X.ex = []) (hN : X.N.Nodup) (hi : X.N[i]? = some n) (hln : X.env.kindOf n = some .local) (hc : Names X x c) (tk : Takes X Wout)
    (hb : ∀ (W : WX) (pn : List (Addr × Obj)) (xe : Value → Shared → Prop), Takes (X.tr pn xe) W → PassesOwn (model X.prog X.w) X.A X.env xe → PSs (X.tr pn xe) body (tb W))
    (hsu : ∀ (a : Addr) (pn : List (Addr × Obj)), PSs (X.suite a pn) (b₀ :: suite) ts) :
    PS X (.Try body [.ExceptHandler (some (.Name x np)) (some n) (b₀ :: suite) pos'] [] [] pos) (fun D σ H => tb (wKeep X.K X.N.length c i ts Wout D) D σ H) := by
  refine ⟨fun pins s σ H D I h => ?_⟩
  have okX := I.ok
  have frm : X.A.frames = some (X.env :: X.outer) := by rw [okX.frames, hs]
  have locN : Loc X.env.scope n := .inl hln
  refine wpAny_Try_except ?_
  refine wpAny_mono ((hb (wKeep X.K X.N.length c i ts Wout D) (X.pn ++ pins) (fun e s1 => wpAny (model X.prog X.w) X.A (noteFrame e X.env) (fun _ s2 => wpAny (model X.prog X.w) X.A (setFlight e none) (fun _ s3 =>
    wpAny (model X.prog X.w) X.A (handleBy e X.env [.ExceptHandler (some (.Name x np)) (some n) (b₀ :: suite) pos']) (SP X pins D) X.xe s3) X.xe s2) X.xe s1) (fun u s' air => ?_) PassesOwn.looking).run [] s σ H D (I.toTry _) h) (fun f s1 sp => ?_) (fun _ _ z => z)
  · obtain ⟨a, B, sI, pins', σ', H', cls, d, rfl, J', nb, up, sky, na, os, ag, b, hb1, yes, no⟩ := air
    have J : Inv X pins σ' H' sI := J'.ofTry okX
    have sk : Sky B (X.env :: X.outer) a (Zc cls d) X.env.locals s'.heap := by rw [← hs]; exact sky
    show wpAny (model X.prog X.w) X.A (noteFrame (.ref a) X.env) _ _ _
    refine Sky.land Zc.steady frm hf sk fun h3 fl3 up3 => ?_
    have J3 : Inv X pins σ' H' { s' with heap := h3 } := J.landed nb fl3.1 (up.trans up3) os ag
    obtain ⟨oe3, vs3, he3, hz3, hd3⟩ := fl3.there
    have out : ∀ {hh : Heap} {o : Obj} {vs : Array Value}, hh.FunFrames B (X.env :: X.outer) → hh.get? a = some o → o.data = .fields vs → a ∉ frs (X.env :: X.outer) := fun {hh o vs} ff e dd hm => by
      obtain ⟨_, o', e', hnf⟩ := ff.mem hm
      rw [e] at e'; cases e'
      exact hnf _ dd
    have nst := out fl3.2.2.1 he3 hd3
    have memL : X.env.locals ∈ frs (X.env :: X.outer) := List.mem_filterMap.mpr ⟨X.env, List.mem_cons_self, by rw [hf]⟩
    have memO : ∀ y, y ∈ X.fs → y ∈ frs (X.env :: X.outer) := fun y hm => by
      obtain ⟨e, he, q⟩ := List.mem_filterMap.mp hm
      exact List.mem_filterMap.mpr ⟨e, List.mem_cons_of_mem _ he, q⟩
    have nL : a ≠ X.env.locals := fun z => nst (by rw [z]; exact memL)
    have nF : a ∉ X.fs := fun hm => nst (memO _ hm)
    have nB : B.get? a = none := fl3.2.1
    have inB : ∀ y o, sI.heap.get? y = some o → y ≠ X.env.locals → y ∉ X.fs → y ≠ a := fun y o e n1 n2 z => by
      have q := nb y o e fun hm => by
        rcases List.mem_cons.mp (J.stkSub y hm) with w | w
        · exact n1 w
        · exact n2 w
      rw [z, nB] at q; cases q
    have nz : X.s_0.heap.get? a = none := by
      cases e : X.s_0.heap.get? a with
      | none => rfl
      | some o =>
        obtain ⟨o', e'⟩ := J.base.there a o e (by rw [hex]; exact fun z => nomatch z)
        exact absurd rfl (inB a o' e' nL nF)
    have npin : ∀ p ∈ X.pn ++ pins, p.1 ≠ a := fun p hp => by
      obtain ⟨q1, _, q3, q4, _⟩ := J.pin p hp
      exact inB _ _ q1 q3 q4
    have S3 := J3.suite he3 hd3 na nL nF
    refine wpAny_handleBy_cons (codeAny_handlers_test ?_) (by intro q; cases q)
    have LT : PySem.W.Looks (model X.prog X.w) h3 (typeOf (.ref a)) cls := fun A Q E s k q => wpAny_typeOf_ref (k _ _ he3) (by rw [hz3.1]; exact q)
    have LM := PySem.W.exm_one (M := model X.prog X.w) (J3.kIn) LT hb1
    have ask : ∀ {Q E : Value → Shared → Prop}, Q c { s' with heap := h3 } → wpAny (model X.prog X.w) (X.A.mark (some (.ref a))) (eval (.Name x np) X.env) Q E { s' with heap := h3 } := fun {Q E} q => by
      obtain ⟨hg, hdbg, hm | ⟨hm, hv, hnn⟩⟩ := hc
      · exact ld_glob (X := X.suite a ((a, oe3) :: (X.pn ++ pins))) S3 hg hm q hdbg
      · exact ld_blt (X := X.suite a ((a, oe3) :: (X.pn ++ pins))) S3 hg hm hv q hnn hdbg
    refine ask (LM.here ?_)
    cases b with
    | false =>
      show wpAny _ X.A (handleBy (.ref a) X.env []) _ _ _
      refine wpAny_handleBy_nil ?_
      obtain ⟨_, _, _, oe, vs, T, oT, ts', he, hz, hd, h1, hr⟩ := id fl3
      unfold PySem.passOn
      refine wpAny_bind (wpAny_field he hd h1 ?_)
      rw [if_neg (show ¬ ((Value.ref T == Value.none) = true) from by simp)]
      have on : wpAny (model X.prog X.w) X.A (setFlight (.ref a) X.env.frame) (fun _ s4 => wpAny (model X.prog X.w) X.A (throw (.ref a) : Sem Flow) (SP X pins D) X.xe s4) X.xe { s' with heap := h3 } := by
        rw [hf]
        refine HandSPX.setFlight_upZ fl3 fun h4 hh4 up4 => wpAny_throw (tk _ _ ?_)
        exact ⟨a, B, sI, pins, σ', H', cls, d, rfl, J, nb, (up.trans up3).trans up4, .inr (.inr (by rw [hs]; exact hh4)), na, os, ag, no rfl⟩
      first
        | exact wpAny_bind (wpAny_pure (wpAny_bind on))
        | exact wpAny_bind on
    | true =>
      obtain ⟨dx, ed, yes2⟩ := yes rfl J.len
      subst ed
      refine codeAny_handlers_suite_as ?_
      refine HandSPX.lands_againZ fl3 fun h4 fl4 up4 => ?_
      have J4 : Inv X pins σ' H' { s' with heap := h4 } := J.landed nb fl4.1 ((up.trans up3).trans up4) os ag
      obtain ⟨oe4, vs4, he4, hz4, hd4⟩ := fl4.there
      have S4 := J4.suite he4 hd4 na nL nF
      refine store_ok (X := X.suite a ((a, oe4) :: (X.pn ++ pins))) (v := .ref a) S4 hN hi locN rfl (fun s5 S5 => ?_) (.inr hln)
      have S5' := keep_exc (pins := pins) S5 hz4 hd4 nz npin
      refine wpAny_mono ((hsu a (X.pn ++ pins)).run [] s5 _ _ _ S5' (yes2 a na)) (fun f s6 sp => ?_) (fun _ _ z => False.elim z)
      have fin : ∀ {σ6 : L2.St} {H6 : Hp} {Q : Shared → Prop}, Inv (X.suite a (X.pn ++ pins)) [] σ6 H6 s6 → (∀ s7, Inv X pins (σ6.set i none) H6 s7 → Q s7) →
          wpAny (model X.prog X.w) X.A (do bindName X.env n .none; unbindBehindTheSuite X.env n pos') (fun _ s7 => Q s7) X.xe s6 := fun {σ6 H6 Q} S6 hq =>
        gone_ok (X := X) (pins := pins) ⟨okX, S6.os, S6.bare, S6.base, S6.loc, S6.cell, S6.free, S6.freeC, fun p hp => S6.pin p (List.mem_append_left _ hp), S6.hok, S6.len⟩ hN hi hln hq
      cases f with
      | next =>
        obtain ⟨σ6, H6, S6, q6⟩ := sp
        exact fin S6 fun s7 J7 => ⟨_, _, J7, q6⟩
      | brk =>
        obtain ⟨σ6, H6, S6, q6⟩ := sp
        exact fin S6 fun s7 J7 => ⟨_, _, J7, q6⟩
      | cont =>
        obtain ⟨σ6, H6, S6, q6⟩ := sp
        exact fin S6 fun s7 J7 => ⟨_, _, J7, q6⟩
      | ret u =>
        obtain ⟨v6, σ6, H6, S6, r6, q6⟩ := sp
        exact fin S6 fun s7 J7 => ⟨_, _, _, J7, r6, q6⟩
  · cases f with
    | next =>
      obtain ⟨σ', H', J', q⟩ := sp
      exact wpAny_execs_nil ⟨σ', H', J'.ofTry okX, q⟩
    | brk =>
      obtain ⟨σ', H', J', q⟩ := sp
      exact ⟨σ', H', J'.ofTry okX, q⟩
    | cont =>
      obtain ⟨σ', H', J', q⟩ := sp
      exact ⟨σ', H', J'.ofTry okX, q⟩
    | ret u =>
      obtain ⟨v, σ', H', J', r, q⟩ := sp
      exact ⟨v, σ', H', J'.ofTry okX, r, q⟩
end

/-! ### raise C(e) -/
/-- C(e) makes an exception whose own dict holds value -/
def tMk (C : Addr) (ta : TA) : L2.St → Hp → XK → Prop := fun σ H Q => ta σ H fun vs H1 => ∃ v, vs = [v] ∧ ∀ d, H1 d = none → Q (.ref C) (some d) (upd H1 d (.xd [(("value" : Str), v)]))
def MkOk (X : Cx) (C : Addr) (x : Str) : Prop := ∀ (a : Expr) (p pos : Pos) (ta : TA), PA X [a] ta → Gl X x → starEach [a] X.env = (false, eval a X.env) :: starEach [] X.env → PMk X (.Call (.Name x p) [a] [] pos) (tMk C ta)
section
variable {X : Cx} {cad : Cad} {W : WX} {pos : Pos}
theorem s_rs {Γ : Tab} {c : Nat} {x : Str} {a : Expr} {a' : E} {p pos2 : Pos} (hc : X.calm = true) (tk : Takes X W) (mk : MkOk X (cad c) x) (hg : Gl X x) (ha : PEU X cad W a (wpE Γ a')) (hs : starEach [a] X.env = (false, eval a X.env) :: starEach [] X.env) :
    PSU X cad W (.Raise (some (.Call (.Name x p) [a] [] pos2)) none pos) (wpS Γ (.rs c a')) :=
  (ps_raise hc tk (mk a p pos2 _ (pa_cons ha pa_nil hs) hg hs)).mono fun D σ H ⟨ρ, δ, α, M, E', rs, rm, t, el⟩ => by
    simp only [wpS] at t
    refine ⟨ρ, δ, α, M, _, _, rs, rm, t, fun d M1 q v H1 α1 n1 r1 m1 => ⟨v, rfl, fun dx hdx => ?_⟩, fun c d M' x => el.wx rs x⟩
    have nw : Nx [] α1 H1 α1 (upd H1 dx (.xd [(("value" : Str), v)])) := Nx.new hdx
    refine el.xc _ _ _ _ q dx v σ _ _ (n1.trans nw) ?_ ?_ upd_same (r1.nx nw) (rs.nx (n1.trans nw)) (m1.new hdx)
    · exact fun z => by obtain ⟨u, e⟩ := m1.mem z; rw [hdx] at e; cases e
    · exact fun z => m1.rho _ z (.inl hdx)
theorem s_try {Γ : Tab} {c i j : Nat} {x n y : Str} {body : List Stmt} {b' : Ss} {np p1 p2 p3 pos' : Pos} (hs : X.stack = X.env :: X.outer) (hf : X.env.frame = some X.env.locals) (hex : X.ex = []) (hN : X.N.Nodup) (hi : X.N[i]? = some n) (hln : X.env.scope.names.lookup n = some .local) (hij : i ≠ j)
    (hy : X.N[j]? = some y) (ly : Loc X.env.scope y) (fy : X.fn y = true ∨ X.env.scope.names.lookup y = some .local) (nd : (n == ("__debug__" : Str)) = false) (ncd : (n == ("__classdict__" : Str)) = false)
    (hg : Gl X x) (hk : ClsK X.K X.mg cad Γ.cls.length Γ.sub c x) (tk : Takes X W)
    (hb : ∀ (W : WX) (pn : List (Addr × Obj)) (xe : Value → Shared → Prop), Takes (X.tr pn xe) W → PassesOwn (model X.prog X.w) X.A X.env xe → PSsU (X.tr pn xe) cad W body (wpSs Γ b'))
    (h1 : swapsWithSole [.Name y p1] (.Name n p2) p3.line X.env = pure false) (h2 : swappedStores [.Name y p1] (.Name n p2) X.env = pure none) :
    PSU X cad W (.Try body [.ExceptHandler (some (.Name x np)) (some n) [.Assign [.Name y p1] (.Name n p2) p3] pos'] [] [] pos) (wpS Γ (.try_ c i b' j)) := by
  have suite : ∀ (a : Addr) (pn : List (Addr × Obj)), PSs (X.suite a pn) [.Assign [.Name y p1] (.Name n p2) p3] (ups (gx X cad) (fun _ _ _ _ => False) (wpSs Γ (.cons (.asg (.nm j) (.var i)) .nil))) := fun a pn =>
    ss_cons (X := X.suite a pn) (cad := cad) (s_asg (u_var (X := X.suite a pn) hi (.inl hln) nd ncd) (g_name (X := X.suite a pn) hN hy ly fy) h1 h2 rfl) ss_nil
  refine (ps_try_keep (c := .ref (cad c)) (tb := fun W => ups (gx X cad) W (wpSs Γ b')) hs hf hex hN hi hln ⟨hg, hk.dbg, .inl hk.mg⟩ tk hb suite).mono fun D σ H ⟨ρ, δ, α, M, E', rs, rm, t, el⟩ => ?_
  simp only [wpS] at t
  refine ⟨ρ, δ, α, M, _, rs, rm, t, ⟨el.nx, el.rt, el.bk, el.ct, fun c' d δ' M' q dx dv σ' H' α' n1 ndx rdx hdx r1 rs1 m1 => ?_⟩⟩
  obtain ⟨hc', q⟩ := q
  refine ⟨_, hk.exm c' hc', fun hb hlen => ⟨dx, rfl, fun a na => ?_⟩, fun hb => ?_⟩
  · rw [if_pos hb] at q
    have nw : Nx [] α' H' α' (upd H' a (ExcO (.ref (cad c')) dx a)) := Nx.new na
    have naα : a ∉ α' := fun z => by obtain ⟨u, e⟩ := m1.mem z; rw [na] at e; cases e
    have naρ : a ∉ ρ := fun z => m1.rho _ z (.inl na)
    have ndxa : dx ≠ a := ne_of_none hdx na
    have ra : RD (gx X cad) ρ (upd H' a (ExcO (.ref (cad c')) dx a)) α' (.exc c' d) (.ref a) := ⟨a, dx, dv, rfl, naα, naρ, upd_same, ndx, rdx, by rw [upd_ne ndxa]; exact hdx, r1.nx nw⟩
    have rs2 := (rs1.nx nw).set ra i
    have hil : i < δ'.length := by rw [rs1.1, hlen]; exact (List.getElem?_eq_some_iff.mp hi).1
    refine ⟨ρ, δ'.set i (some (.exc c' d)), α', M', { nx := fun δ2 M2 => δ2 = (δ'.set i (some (.exc c' d))).set j (some (.exc c' d)) ∧ M2 = M', rt := fun _ _ => False }, rs2, m1.new na, ?_, ⟨fun δ2 M2 e σ2 H2 α2 n2 r2 m2 => ?_, fun _ _ z => z.elim, fun _ _ z => z.elim, fun _ _ z => z.elim, fun _ _ _ _ z => z.elim⟩⟩
    · simp only [wpSs, wpS, wpE, slotD, List.getElem?_set_self hil, bndD, bindT]
      first | exact ⟨rfl, rfl⟩ | exact trivial | simp
    · obtain ⟨rfl, rfl⟩ := e
      refine el.nx _ _ q _ _ _ ((n1.trans nw).trans n2) ?_ m2
      have e3 : ((δ'.set i (some (AA.D.exc c' d))).set j (some (.exc c' d))).set i none = (δ'.set j (some (.exc c' d))).set i none := by
        rw [List.set_comm _ _ hij, List.set_set]
      rw [← e3]
      exact r2.clear i
  · rw [if_neg (by rw [hb]; exact Bool.false_ne_true)] at q
    exact el.xc _ _ _ _ q dx dv σ' H' α' n1 ndx rdx hdx r1 rs1 m1
end
end AA
/-! AA9: what the checker lets through keeps what is asked: expressions. -/
namespace AA
open PySem PySem.Spec L2
open PyProof.Rows hiding St

/-- the built-ins that are named -/
def biNames : List Str := ["len", "abs", "sum", "all", "any", "min", "max", "int", "bool", "str", "tuple", "list", "dict", "repr", "sorted", "isinstance", "range", "enumerate", "zip", "ValueError", "set"]
/-- the text of the def that hears what a call raises -/
def hN : List Str := ["look", "caught", "back", "error"]
structure HeardTxt (K : PySem.W.Frag) (mg : Str → Option Value) (g : Addr) (st : Stmt) (fd : FuncData) : Prop where
  mg : mg "_law_heard" = some (.ref g)
  fn : Fun K "_law_heard" "_law_heard" st g fd
  sc : FnScope hN ["look"] (defScope st)
  bi : Binds K fd ["look"] []
  lk : (defScope st).names.lookup ("look" : Str) = some .local ∧ (defScope st).names.lookup ("caught" : Str) = some .local ∧ (defScope st).names.lookup ("back" : Str) = some .local ∧ (defScope st).names.lookup ("error" : Str) = some .local ∧ glB (defScope st) "JobError" = true
  body : ∃ p1 p2 p3 p4 p5 p6 p7 p8 p9 p10 p11 p12 p13 p14 p15 p16 p17 p18 p19 p20 p21 : Pos, ∃ k1 k2 k3, ∃ j1 j2,
    defBody st = [.Assign [.Tuple [.Name "caught" p1, .Name "back" p2] k1 p3] (.Tuple [.Constant .none j1 p4, .Constant .none j2 p5] k2 p6) p7,
      .Try [.Assign [.Name "back" p8] (.Call (.Name "look" p9) [] [] p10) p11] [.ExceptHandler (some (.Name "JobError" p12)) (some "error") [.Assign [.Name "caught" p13] (.Name "error" p14) p15] p16] [] [] p17,
      .Return (some (.Tuple [.Name "caught" p18, .Name "back" p19] k3 p20)) p21] ∧ swapB (defScope st) [.Name "caught" p1, .Name "back" p2] [.Constant .none j1 p4, .Constant .none j2 p5] = some none
/-- where lambdas are made: the maker's code object and its table -/
structure TbOk (Γ : Tab) (cad : Cad) (L : Nat) (X : Cx) : Prop where
  tab : ∃ c P, LamX.TabB X.base X.mg c P ∧ X.env.code = .ref c ∧ (P, X.env.qual ++ "<lambda>") ∈ cad.tabs ∧ ∀ p ∈ cad.tabs, p.1 = P → p.2 = X.env.qual ++ "<lambda>"
  fns : ∃ L2, L2 + 2 ≤ L ∧ ∀ (k : Nat) f, Γ.fn[k]? = some f → FnI X.prog X.w X.K cad X.mg X.base L2 f
  hrd : ∃ g st fd, HeardTxt X.K X.mg g st fd
structure Lok (Γ : Tab) (N : List Str) (cad : Cad) (L : Nat) (sc : Scope) (fn : Str → Bool) (X : Cx) (W : WX) : Prop where
  hN : X.N = N
  hsc : X.env.scope = sc
  hfn : ∀ x, fn x = true → X.fn x = true
  nd : N.Nodup
  calm : X.calm = true
  kind : sc.kind = .function
  tk : Takes X W
  fns : ∀ (k : Nat) f, Γ.fn[k]? = some f → FnI X.prog X.w X.K cad X.mg X.base L f
  room : Room L X.A
  cst : ∀ (k : Nat) c, Γ.cst[k]? = some c → (c.1 == ("__debug__" : Str)) = false ∧ ∃ v u, X.mg c.1 = some u ∧ RelV v u ∧ ∀ ρ H α, RD (gx X cad) ρ H α c.2 v
  bi : ∀ n ∈ biNames, X.mg n = none
  rp : Γ.rp = PyData.shown
  gd : X.A.guards = some []
  exc : ∀ c, c < Γ.cls.length → ExcK X.K (cad c)
  cls : ∀ c x, Γ.cls[c]? = some x → ClsK X.K X.mg cad Γ.cls.length Γ.sub c x
  ve : ∀ c, c < Γ.cls.length → PySem.W.kitOne X.K (.ref (cad c)) (.type "ValueError") = some true
  tb : Γ.lams.contains N = true → fn "<lambda>" = true → TbOk Γ cad L X
  ats : AtsOk X.K cad Γ.ats
  ins : ∀ p ∈ Γ.ins, InsC X.K X.mg cad p.1 p.2
section
variable {Γ : Tab} {N : List Str} {cad : Cad} {L : Nat} {sc : Scope} {fn : Str → Bool} {X : Cx} {W : WX}
theorem Lok.units (l : Lok Γ N cad L sc fn X W) : X.A.units + 64 < cLine := l.room.units
theorem Lok.biOk (l : Lok Γ N cad L sc fn X W) : BiOk X Γ.rp := ⟨fun b => l.bi _ (by cases b <;> decide +kernel), by rw [l.rp]; exact cr_repr l.gd l.units⟩
theorem Lok.gl (l : Lok Γ N cad L sc fn X W) {x : Str} (h : glB sc x = true) : Gl X x := by
  unfold Gl Env.kindOf
  rw [l.hsc]
  unfold glB at h
  split at h
  · assumption
  · cases h
theorem Lok.vis (l : Lok Γ N cad L sc fn X W) {x : Str} (h : visB sc x = true) : Vis X.env.scope x := by
  rw [l.hsc]
  unfold visB at h
  split at h
  · exact .inl (by assumption)
  · exact .inr (.inl (by assumption))
  · exact .inr (.inr (by assumption))
  · cases h
theorem Lok.loc (l : Lok Γ N cad L sc fn X W) {x : Str} (h : locB sc x = true) : X.env.scope.names.lookup x = some .local := by
  rw [l.hsc]
  unfold locB at h
  split at h
  · assumption
  · cases h
theorem Lok.bnd (l : Lok Γ N cad L sc fn X W) {i : Nat} {x : Str} (h : bndB N sc fn i x = true) : X.N[i]? = some x ∧ Loc X.env.scope x ∧ (X.fn x = true ∨ X.env.scope.names.lookup x = some .local) := by
  simp only [bndB, Bool.and_eq_true, Bool.or_eq_true, beq_iff_eq] at h
  refine ⟨by rw [l.hN]; exact h.1, ?_⟩
  rcases h.2 with h | ⟨h1, h2⟩
  · exact ⟨.inl (l.loc h), .inr (l.loc h)⟩
  · refine ⟨.inr ?_, .inl (l.hfn x h2)⟩
    rw [l.hsc]
    unfold celB at h1
    split at h1
    · assumption
    · cases h1
/-- in a comprehension's block -/
theorem Lok.blk (l : Lok Γ N cad L sc fn X W) {scope : Scope} (hk : scope.kind = .function) (s : Shared) (H : Hp) (C : Addr) (cl : List (Str × Addr)) (fp : List Addr) :
    Lok Γ N cad L (relS scope sc) (blkFn scope) (X.blk s H scope (compEnvC scope cl C X.env) fp) (fun _ _ _ _ => False) := by
  refine ⟨l.hN, ?_, fun x h => by
    simp only [blkFn, Bool.and_eq_true] at h
    exact h.1, l.nd, l.calm, hk, takes0, l.fns, l.room, l.cst, l.bi, l.rp, l.gd, l.exc, l.cls, l.ve, (fun _ h => by
    simp [blkFn] at h), l.ats, l.ins⟩
  show relS scope X.env.scope = _
  rw [l.hsc]
/-! ### forms -/
theorem chk_okX {e : E} {e' : Expr} (h : chkE Γ N sc fn e e' = true) : okX e' = true := by
  cases e' <;> first
    | rfl
    | (cases e <;> first | exact absurd (show false = true from h) (by decide) | (simp only [chkE] at h; first | (cases h; done) | (simp [okX] at h; done)))
theorem star_of {e' : Expr} (h : okX e' = true) (es : List Expr) (env : Env) : starEach (e' :: es) env = (false, eval e' env) :: starEach es env := by
  cases e' <;> first
    | rfl
    | cases h
theorem plainIx_of {e' : Expr} (h : okX e' = true) : PlainIx e' := by
  intro o i
  cases e' <;> first
    | rfl
    | cases h
theorem mark_of {op : CmpOp} {e' : Expr} (h : okX e' = true) : behindInMarks op e' = false := by
  cases e' <;> first
    | rfl
    | cases h
theorem folded_of {e' : Expr} (h : okX e' = true) {env : Env} (x : Value) : foldedSetIterable e' env x = pure x := by
  cases e' <;> first
    | rfl
    | cases h
theorem base_of {o : Expr} (h : okS o = true) {x : Str} {env : Env} : attributeBase o x env (eval o env) = eval o env := by
  cases o <;> first
    | rfl
    | (cases h; done)
    | (rename_i f as ks p
       cases as <;> first
         | (simp [okS] at h; done)
         | rfl
         | (unfold attributeBase; rfl)
         | (cases f <;> rfl))
/-- a test whose expression is plain -/
def plainT : Expr → Bool
  | .UnaryOp .Not _ _ => false | .BoolOp .. => false | .IfExp .. => false | .Compare .. => false | _ => true
theorem plainT_of {e : Expr} (h : plainT e = true) {env : Env} (whole : Sem Value) : isTrue e env whole = (do let v ← whole; standAt e.pos; holding [v] (truthy v)) := by
  cases e <;> first
    | rfl
    | (cases h; done)
    | (rename_i op a p; cases op <;> first | rfl | cases h)
theorem noStar_any {pos : Pos} {env : Env} : ∀ {es : List Expr}, (∀ e ∈ es, okX e = true) → (backTo pos (starEach es env)).any (·.1) = false
  | [], _ => rfl
  | e :: es, h => by
    rw [star_of (h e List.mem_cons_self)]
    show (false || (backTo pos (starEach es env)).any (·.1)) = false
    rw [noStar_any fun e he => h e (List.mem_cons_of_mem _ he)]; rfl
theorem chkEs_okX : ∀ {es : Es} {es' : List Expr}, es'.all (!starB ·) = true → chkEs Γ N sc fn es es' = true → ∀ e ∈ es', okX e = true
  | .nil, [], _, _, e, he => by cases he
  | .nil, _ :: _, _, h, e, he => by simp [chkEs] at h
  | .cons a as, [], _, h, e, he => by cases he
  | .cons a as, b :: bs, hs, h, e, he => by
    simp only [chkEs, Bool.and_eq_true] at h
    simp only [List.all_cons, Bool.and_eq_true] at hs
    rcases List.mem_cons.mp he with rfl | he
    · exact chk_okX h.1
    · exact chkEs_okX hs.2 h.2 e he
  | .star a as, [], _, h, e, he => by cases he
  | .star a as, b :: bs, hs, h, e, he => by
    simp only [List.all_cons, Bool.and_eq_true] at hs
    cases b <;> simp [chkEs] at h
    simp [starB] at hs
theorem tru_of {G : Gm} {ρ α : List Addr} {H : Hp} {M : Mem} (rm : RM G ρ H α M) {d : D} {v : V} {b : Bool} (r : RD G ρ H α d v) (e : truD M d = some b) : TruV G.K v H b := by
  have emp : ∀ {xs : List D} {vs : List V}, RDs G ρ H α xs vs → (!xs.isEmpty) = !vs.isEmpty := fun {xs vs} r => by
    have := r.length
    cases xs <;> cases vs <;> simp at this ⊢
  cases d with
  | non => cases r; cases e; rfl
  | bl _ => cases r; cases e; rfl
  | int _ => cases r; cases e; rfl
  | str _ => cases e
  | tup xs => obtain ⟨a, vs, rfl, t, rs⟩ := r; cases e; exact .inr (.inl ⟨vs, t.sqt, emp rs⟩)
  | lst xs => obtain ⟨a, vs, rfl, t, rs⟩ := r; cases e; exact .inl ⟨vs, t.sql, emp rs⟩
  | ref n =>
    obtain ⟨a, rfl, ha⟩ := r
    simp only [truD] at e
    split at e <;> try contradiction
    rename_i ys hm
    cases e
    obtain ⟨vs, h1, h2⟩ := rm.get ha hm
    exact .inl ⟨vs, SqL.of h1, emp h2⟩
  | exc _ _ => cases e
  | dic0 => cases e
/-- a plain test: the value, then its truth -/
theorem u_truth {t : TD} {e : Expr} {tt : TTD} (hp : plainT e = true) (h : PEU X cad W e t) (hq : ∀ δ M Q Xc, tt δ M Q Xc → t δ M (fun d M1 => asTru M1 d fun b => Q b M1) Xc) : PTU X cad W e tt :=
  (pt_truth h fun wh => plainT_of hp wh).mono fun σ H Qv ⟨ρ, δ, α, M, Q', X', rs, rm, t0, hq', hx⟩ => by
    refine ⟨ρ, δ, α, M, _, _, rs, rm, hq _ _ _ _ t0, fun d M1 q v H1 α1 n1 r1 m1 => ?_, hx⟩
    obtain ⟨b, e, q'⟩ := q.inv
    exact ⟨b, tru_of m1 r1 e, hq' _ _ q' _ _ n1 m1⟩
theorem u_not {a : Expr} {a' : E} {pos : Pos} (ha : PEU X cad W a (wpE Γ a')) : PEU X cad W (.UnaryOp .Not a pos) (wpE Γ (.not_ a')) := by
  refine (pe_notT (pos := pos) ha).mono fun σ H Qv ⟨ρ, δ, α, M, Q', X', rs, rm, t, hq, hx⟩ => ?_
  simp only [wpE] at t
  refine ⟨ρ, δ, α, M, _, _, rs, rm, t, fun x M1 q v H1 α1 n1 r1 m1 => ?_, hx⟩
  obtain ⟨b, e, q'⟩ := q.inv
  exact ⟨b, tru_of m1 r1 e, hq _ _ q' _ _ _ n1 rfl m1⟩
end
end AA
/-! AA9h: a lambda without parameters that is given to the def that hears. -/
namespace AA
open PySem PySem.Spec L2
open PyProof.Rows hiding St

theorem noPar_eq {a : Arguments} (h : noPar a = true) : a = ⟨[], [], none, [], [], none, []⟩ := by
  obtain ⟨a1, a2, a3, a4, a5, a6, a7⟩ := a
  simp only [noPar, Bool.and_eq_true, List.isEmpty_iff, Option.isNone_iff_eq_none] at h
  obtain ⟨⟨⟨⟨⟨⟨h1, h2⟩, h3⟩, h4⟩, h5⟩, h6⟩, h7⟩ := h
  subst h1 h2 h3 h4 h5 h6 h7
  rfl
theorem nx_ext {α : List Addr} {H H1 : Hp} (e : LamX.ExtN H H1) : Nx [] α H α H1 := by
  refine ⟨⟨[], by simp⟩, fun a o h t _ _ => e a o h t, fun a f => ?_⟩
  cases h : H a with
  | none => exact .inl h
  | some o =>
    by_cases z : ∃ ps, o = .tbl ps
    · obtain ⟨ps, rfl⟩ := z
      exact .inr ⟨ps, h⟩
    · have t : notTbl o := fun ps w => z ⟨ps, w⟩
      exact (f.no (e a o h t) t).elim
/-- the context of the def that hears, called from X -/
abbrev heardCx (X : Cx) (sg : Scope) (g : Addr) (cdv : Value) (s : Shared) (H : Hp) (E : XK) : Cx := cxOf (L2.CX X.prog X.w) X.prog X.w X.K X.mg X.base hN "_law_heard" sg g cdv X.A X.stack s H E
section
variable {Γ : Tab} {N : List Str} {cad : Cad} {L : Nat} {sc : Scope} {fn : Str → Bool} {X : Cx} {W : WX}
/-- look() within the def that hears: the lambda's own code, from where it was made -/
theorem act_ok {W' : WX} {pins pn : List (Addr × Obj)} {xe : Value → Shared → Prop} {σ : L2.St} {H1 : Hp} {s1 : Shared} {f c' g : Addr} {scope sg : Scope} {cdv : Value} {Eg : XK} {body : Expr} {params : Arguments} {pm ctv : Value} {tb : XK → TE} {L2 : Nat} {p1 p2 : Pos}
    (I1 : Inv X pins σ H1 s1) (Ls : LamX.LamS X.env.scope scope) (hf : s1.heap.get? f = some (PySem.W.kla_obj "<lambda>" (X.env.qual ++ "<lambda>") params body scope (cloFrom X.env.cells scope.names []) pm c' ctv)) (hfn : H1 f = none) (hfr : f ∉ frs X.stack)
    (hbind : bindArgs (PySem.W.kla_fn "<lambda>" (X.env.qual ++ "<lambda>") params body scope (cloFrom X.env.cells scope.names []) pm (.ref c') ctv) ⟨[], []⟩ = pure [])
    (hr : Room (L2 + 1) (heardCx X sg g cdv s1 H1 Eg).A) (tk : Takes ((heardCx X sg g cdv s1 H1 Eg).tr pn xe) W') (hv : Vis sg "look")
    (hbody : ∀ (A : Around) (outer : List Env) (s : Shared) (H : Hp) (E : XK), A.guards = X.A.guards → Room L2 (A.deeper (LamX.lamEnv X scope s.heap.objs.size f c')) → PE (LamX.lamCx X A outer s H E scope f c') body (tb E)) :
    PE ((heardCx X sg g cdv s1 H1 Eg).tr pn xe) (.Call (.Name "look" p1) [] [] p2) (fun σz Hz Q => σz[0]? = some (some (.ref f)) ∧ Hz c' = some (LamX.CodeO c' (X.env.qual ++ "<lambda>")) ∧ tb (WE W' σz) σ Hz Q) := by
  refine ⟨fun pz sz σz Hz Q IZ ⟨hs, hco, ht⟩ => ?_⟩
  refine wpAny_Call_Name_kw (thn ((pe_var (pos := p1) (i := 0) rfl hv (by decide) (by decide)).run pz sz σz Hz (fun v H2 => v = .ref f ∧ H2 = Hz) IZ ⟨.ref f, hs, rfl, rfl⟩) fun u s2 ⟨v, H2, I2, r2, e1, e2⟩ => ?_)
  subst e1 e2
  obtain rfl : u = Value.ref f := r2
  have ub : Un (frs X.stack) [] H1 H2 s1.heap s2.heap := I2.base
  have of2 := ub.keep f _ hf hfn hfr (fun z => by cases z)
  refine PySem.W.callWith_F0 ⟨_, _, _, _, of2⟩ ?_
  obtain ⟨⟨oc, vs, t, hoc, hdc, hvc⟩, _, _⟩ := I2.hok c' _ hco
  refine wpAny_call (call_end tk I2 ?_)
  show codeAny _ _ (.call (.ref f) ⟨[], []⟩) _ _
  refine PySem.W.kla_callFunE hr.depth of2 rfl Ls.co Ls.gen rfl ⟨c', oc, vs, t, rfl, hoc, hdc, hvc⟩ ?_
  rw [hbind]
  refine wpAny_pure (wpAny_newFunctionEnv (fun y hy => (Ls.own y hy).2) (fun y hy => by cases hy) (fun h2 nsl same => ⟨I2.nolimit.fresh _ same, ?_⟩) Ls.kind)
  have kp : ∀ b o, s2.heap.get? b = some o → h2.get? b = some o := fun b o e => same.extBut b o (Nat.ne_of_lt (Heap.lt_size e)) (Heap.get?_push_of_some _ e)
  have J := LamX.lam_start2 (E := WE W' σz) (tk := s2.toks + ([] : List (Str × Value)).length) (f := f) (c' := c') I1 Ls I2.env0 hr.hd ub nsl kp
  refine PySem.W.kla_codeExpr (wpAny_mono ((hbody (heardCx X sg g cdv s1 H1 Eg).A (heardCx X sg g cdv s1 H1 Eg).stack s2 H2 (WE W' σz) rfl (hr.deeper _)).run [] _ _ _ Q J ht) (fun v s3 q => ?_) fun e s3 q => q)
  obtain ⟨w', H3, J3, rv, q⟩ := q
  exact ⟨w', H3, J3.os, J3.bare, J3.base, J3.hok, rv, q⟩
theorem u_hear {k c : Nat} {e' : E} {body : Expr} {params : Arguments} {scope : Scope} {p lp pos : Pos} (l : Lok Γ N cad L sc fn X W) (tb : TbOk Γ cad L X) (hc : Γ.cls[c]? = some "JobError") (hg : Gl X "_law_heard") (Ls : LamX.LamS X.env.scope scope) (hp : noPar params = true)
    (hbody : ∀ (L2 : Nat) (A : Around) (outer : List Env) (s : Shared) (H : Hp) (E : XK) (f c' : Addr), (∀ (k : Nat) f, Γ.fn[k]? = some f → FnI X.prog X.w X.K cad X.mg X.base L2 f) → A.guards = X.A.guards → Room L2 (A.deeper (LamX.lamEnv X scope s.heap.objs.size f c')) →
      PEU (LamX.lamCx X A outer s H E scope f c') cad (fun cls d _ H => E cls d H) body (wpE Γ e')) :
    PEU X cad W (.Call (.Name "_law_heard" p) [.Lambda params body scope lp] [] pos) (wpE Γ (.hear k c e')) := by
  obtain ⟨c0, P, TB, hcode, hmT, hu⟩ := tb.tab
  obtain ⟨L2, hL, fns⟩ := tb.fns
  obtain ⟨g, st, fd, T⟩ := tb.hrd
  have pe := noPar_eq hp
  subst pe
  have hk := l.cls c _ hc
  refine ⟨fun pins s σ H Qv I ⟨ρ, δ, α, M, Q', X', rs, rm, t, hq, hx⟩ => ?_⟩
  simp only [wpE] at t
  refine wpAny_Call_Name_kw (ld_glob I hg T.mg ?_ (by decide))
  refine PySem.W.callWith_K (h₀ := X.base) I.ok.mod.kin T.fn.kp ?_ (by rfl) (by rfl)
  show wpAny _ _ (spliced ((false, eval (.Lambda ⟨[], [], none, [], [], none, []⟩ body scope lp) X.env) :: backTo pos (starEach [] X.env))) _ _ s
  refine Calls.spliced_cons (LamX.lam_make2 I TB hcode hmT hu rm.tab rfl (Ls.has I.ok) fun f c' pm ctv H1 s1 I1 eN T1 hf hfn hfr hco => ?_)
  refine Calls.spliced_nil ⟨I1.kIn, ?_⟩
  have n1 := nx_ext (α := α) eN
  have m1 : RM (gx X cad) ρ H1 α M := rm.nx n1 (fun a ha => by
    obtain ⟨n, hn, en⟩ := List.getElem_of_mem ha
    have hl : n < M.length := by rw [← rm.len]; exact hn
    obtain ⟨o, eo, to, _⟩ := (rm.at_ n a (M[n]'hl) (by rw [List.getElem?_eq_getElem hn, en]) (List.getElem?_eq_getElem hl)).num
    rw [eo]
    exact eN a o eo to) T1
  have rs1 := rs.nx n1
  obtain ⟨oc, od, kv, doc, pm2, an, cdv, ct, osl, efd, lk, hcd⟩ := T.fn.ex
  refine wpAny_call (call_end l.tk I1 ?_)
  have hr2 : Room (L2 + 2) X.A := l.room.mono hL
  have hb := T.bi
  rw [efd] at hb lk
  refine LamX.run_ofS (N := hN) (ps := ["look"]) (us := [.ref f]) (vs := [.ref f]) (K := X.K) lk hcd T.sc hr2 I1.env0 (hb s1 [.ref f] I1.kIn rfl) (.cons rfl .nil) rfl fun hr' => ?_
  obtain ⟨l1, l2, l3, l4, l5⟩ := T.lk
  obtain ⟨p1, p2, p3, p4, p5, p6, p7, p8, p9, p10, p11, p12, p13, p14, p15, p16, p17, p18, p19, p20, p21, k1, k2, k3, j1, j2, eb, esw⟩ := T.body
  rw [eb]
  have gl : Gl ((heardCx X (defScope st) g cdv s1 H1 (WE W σ))) "JobError" := by
    unfold Gl Env.kindOf
    show (defScope st).names.lookup ("JobError" : Str) = some .globalImplicit
    unfold glB at l5
    split at l5
    · assumption
    · cases l5
  have s1k := ps_asg (X := heardCx X (defScope st) g cdv s1 H1 (WE W σ)) (pos := p7) (pe_tup (x1 := k2) (pos := p6) (pa_cons (pe_non (j := j1) (pos := p4)) (pa_cons (pe_non (j := j2) (pos := p5)) pa_nil)))
    (pg_tup (X := heardCx X (defScope st) g cdv s1 H1 (WE W σ)) (pos := p3) (k := k1) rfl (pgs_cons (pg_name (x := "caught") (pos := p1) (i := 1) T.sc.nd rfl (.inl l2) (.inl rfl)) (pgs_cons (pg_name (x := "back") (pos := p2) (i := 2) T.sc.nd rfl (.inl l3) (.inl rfl)) pgs_nil)))
    rfl (swapB_ok (env := (heardCx X (defScope st) g cdv s1 H1 (WE W σ)).env) T.sc.kind esw) rfl
  have act : ∀ (W' : WX) (pn : List (Addr × Obj)) (xe : Value → Shared → Prop), Takes ((heardCx X (defScope st) g cdv s1 H1 (WE W σ)).tr pn xe) W' →
      PSs ((heardCx X (defScope st) g cdv s1 H1 (WE W σ)).tr pn xe) [.Assign [.Name "back" p8] (.Call (.Name "look" p9) [] [] p10) p11] (tAsg (fun σz Hz Q => σz[0]? = some (some (.ref f)) ∧ Hz c' = some (LamX.CodeO c' (X.env.qual ++ "<lambda>")) ∧ up (gx X cad) (fun cls d _ H => WE W' σz cls d H) (wpE Γ e') σ Hz Q) (gName 2)) := fun W' pn xe tk =>
    pss_one (ps_asg (act_ok (L2 := L2) (tb := fun E => up (gx X cad) (fun cls d _ H => E cls d H) (wpE Γ e')) I1 Ls hf hfn hfr rfl hr' tk (.inl l1) fun A outer s H E hA hR => hbody L2 A outer s H E f c' fns hA hR)
      (pg_name (X := (heardCx X (defScope st) g cdv s1 H1 (WE W σ)).tr pn xe) (i := 2) T.sc.nd rfl (.inl l3) (.inl rfl)) rfl rfl rfl)
  have suite : ∀ (a : Addr) (pn : List (Addr × Obj)), PSs ((heardCx X (defScope st) g cdv s1 H1 (WE W σ)).suite a pn) [.Assign [.Name "caught" p13] (.Name "error" p14) p15] (tAsg (tVar 3) (gName 1)) := fun a pn =>
    pss_one (ps_asg (pe_var (X := (heardCx X (defScope st) g cdv s1 H1 (WE W σ)).suite a pn) (i := 3) rfl (.inl l4) (by decide) (by decide)) (pg_name (X := (heardCx X (defScope st) g cdv s1 H1 (WE W σ)).suite a pn) (i := 1) T.sc.nd rfl (.inl l2) (.inl rfl)) rfl rfl rfl)
  have s2k := ps_try_keep (X := heardCx X (defScope st) g cdv s1 H1 (WE W σ)) (x := "JobError") (n := "error") (np := p12) (pos := p17) (pos' := p16) (c := .ref (cad c)) (i := 3) (Wout := fun _ _ _ _ => False) rfl rfl rfl T.sc.nd rfl l4 ⟨gl, hk.dbg, .inl hk.mg⟩ takes0 (fun W' pn xe tk _ => act W' pn xe tk) suite
  have s3k := ps_ret (X := heardCx X (defScope st) g cdv s1 H1 (WE W σ)) (pos := p21) (pe_tup (x1 := k3) (pos := p20) (pa_cons (pe_var (i := 1) (x := "caught") (pos := p18) rfl (.inl l2) (by decide) (by decide)) (pa_cons (pe_var (i := 2) (x := "back") (pos := p19) rfl (.inl l3) (by decide) (by decide)) pa_nil)))
  refine ⟨_, pss_cons s1k (pss_cons s2k (pss_one s3k)), ?_⟩
  refine ⟨by rw [sizeLine_eq]; exact (by decide : 2 ≤ 16777216), fun pt hpt => ?_⟩
  refine ⟨pt, _, rfl, SqT.of upd_same, rfl, .non, _, rfl, .non, _, rfl, rfl, ?_⟩
  have nt : Nx [] α H1 α (upd H1 pt (.tup [.non, .non])) := Nx.new hpt
  have n1' := n1.trans nt
  refine ⟨rfl, by rw [upd_ne (ne_of_none hco hpt)]; exact hco, ρ, δ, α, M, _, _, rs1.nx nt, m1.new hpt, t, fun d M2 q v H2 α2 n2 r2 m2 => ?_, fun c2 d M2 q dx dv H2 α2 n2 ndx rdx hdx r2 m2 => ?_⟩
  · refine ⟨.non, rfl, v, rfl, by rw [sizeLine_eq]; exact (by decide : 2 ≤ 16777216), fun p hp => ?_⟩
    exact new_tup (xs := [.non, d]) m2 (RDs.cons rfl (RDs.cons r2 RDs.nil)) q (fun d' M' z => (hq d' M' z).nx (n1'.trans n2)) p hp
  · obtain ⟨hc2, hsub, q⟩ := q
    refine ⟨true, by rw [← hsub]; exact hk.exm c2 hc2, fun _ _ => ⟨dx, rfl, fun a na => ?_⟩, fun z => by cases z⟩
    have nw : Nx [] α2 H2 α2 (upd H2 a (ExcO (.ref (cad c2)) dx a)) := Nx.new na
    have na2 : a ∉ α2 := fun z => by obtain ⟨u, e⟩ := m2.mem z; rw [na] at e; cases e
    have na3 : a ∉ ρ := fun z => m2.rho _ z (.inl na)
    have ndxa : dx ≠ a := ne_of_none hdx na
    have ra : RD (gx X cad) ρ (upd H2 a (ExcO (.ref (cad c2)) dx a)) α2 (.exc c2 d) (.ref a) := ⟨a, dx, dv, rfl, na2, na3, upd_same, ndx, rdx, by rw [upd_ne ndxa]; exact hdx, r2.nx nw⟩
    refine ⟨.ref a, rfl, .ref a, rfl, .non, rfl, by rw [sizeLine_eq]; exact (by decide : 2 ≤ 16777216), fun p hp => ?_⟩
    exact new_tup (xs := [.exc c2 d, .non]) (m2.new na) (RDs.cons ra (RDs.cons rfl RDs.nil)) q (fun d' M' z => (hq d' M' z).nx ((n1'.trans n2).trans nw)) p hp
theorem Lok.lam (l : Lok Γ N cad L sc fn X W) {scope : Scope} (Ls : LamX.LamS X.env.scope scope) {L2 : Nat} (A : Around) (outer : List Env) (s : Shared) (H : Hp) (E : XK) (f c' : Addr) (fns : ∀ (k : Nat) f, Γ.fn[k]? = some f → FnI X.prog X.w X.K cad X.mg X.base L2 f)
    (hA : A.guards = X.A.guards) (hR : Room L2 (A.deeper (LamX.lamEnv X scope s.heap.objs.size f c'))) : Lok Γ N cad L2 scope (fun _ => false) (LamX.lamCx X A outer s H E scope f c') (fun cls d _ H => E cls d H) :=
  ⟨l.hN, rfl, fun x h => (by cases h), l.nd, rfl, Ls.kind, takes_of (X := LamX.lamCx X A outer s H E scope f c') (E₁ := fun e2 s2 => _root_.L2.CX X.prog X.w outer H s E e2 s2) rfl rfl rfl rfl, fns, hR, l.cst, l.bi, l.rp, hA.trans l.gd, l.exc, l.cls, l.ve, (fun _ h => (by cases h)), l.ats, l.ins⟩
end
end AA
/-! AA10: soundness. -/
namespace AA
open PySem PySem.Spec L2
open PyProof.Rows hiding St
section
variable {Γ : Tab} {N : List Str} {cad : Cad} {L : Nat}
theorem kw_names {pos : Pos} {env : Env} : ∀ {kws : List Keyword} {ps : List Str}, kws.map (·.arg) = ps.map some →
    (backToKw pos (keywordEach kws env)).all (·.1.isSome) = true ∧ (backToKw pos (keywordEach kws env)).filterMap (·.1) = ps ∧ (backToKw pos (keywordEach kws env)).any (·.1.isNone) = false
  | [], [], _ => ⟨rfl, rfl, rfl⟩
  | [], _ :: _, h => by cases h
  | _ :: _, [], h => by cases h
  | ⟨a, v, p⟩ :: kws, q :: ps, h => by
    injection h with h1 h2
    obtain ⟨i1, i2, i3⟩ := kw_names (pos := pos) (env := env) h2
    have h1 : a = some q := h1
    subst h1
    refine ⟨?_, ?_, ?_⟩
    · show (true && _) = true
      rw [Bool.true_and]; exact i1
    · show q :: _ = _
      congr 1
    · show (false || _) = false
      rw [Bool.false_or]; exact i3
theorem t_false {X : Cx} {W : WX} {e' : Expr} {t : TTD} (h : ∀ δ M Q Xc, ¬ t δ M Q Xc) : PTU X cad W e' t := ⟨fun pins s σ H Qv I ⟨ρ, δ, α, M, Q', X', rs, rm, t0, hq, hx⟩ => (h _ _ _ _ t0).elim⟩
def isBoolE : Expr → Bool
  | .BoolOp .. => true | _ => false
theorem u_ifeT {X : Cx} {W : WX} {pos : Pos} {c a b : Expr} {c' a' b' : E} (hc : PTU X cad W c (wpT Γ c')) (ha : PTU X cad W a (wpT Γ a')) (hb : PTU X cad W b (wpT Γ b')) : PTU X cad W (.IfExp c a b pos) (wpT Γ (.ife c' a' b')) := by
  refine ⟨fun pins s σ H Qv I ⟨ρ, δ, α, M, Q', X', rs, rm, t, hq, hx⟩ => ?_⟩
  simp only [wpT] at t
  refine isTrue_IfExp (thn (hc.run pins s σ H (fun b H1 => if b = true then upt (gx X cad) W (wpT Γ a') σ H1 Qv else upt (gx X cad) W (wpT Γ b') σ H1 Qv) I ⟨ρ, δ, α, M, _, _, rs, rm, t, fun k M1 q H1 α1 n1 m1 => ?_, hx⟩) fun k s1 ⟨H1, I1, q1⟩ => ?_)
  · cases k with
    | false => simp only [Bool.false_eq_true, if_false] at q ⊢; exact ⟨ρ, δ, α1, M1, _, _, rs.nx n1, m1, q, fun d M' z => (hq d M' z).nx n1, fun c d M' x => (hx c d M' x).nx n1⟩
    | true => simp only [if_true] at q ⊢; exact ⟨ρ, δ, α1, M1, _, _, rs.nx n1, m1, q, fun d M' z => (hq d M' z).nx n1, fun c d M' x => (hx c d M' x).nx n1⟩
  · cases k with
    | true => exact ha.run pins s1 σ H1 Qv I1 q1
    | false => exact hb.run pins s1 σ H1 Qv I1 q1
theorem u_call' {sc : Scope} {fn : Str → Bool} {X : Cx} {W : WX} {pos p : Pos} {k : Nat} {f : Fn} {es' : List Expr} {es : Es} (l : Lok Γ N cad L sc fn X W) (hf : Γ.fn[k]? = some f) (how : f.own = none) (h2 : glB sc f.name = true) (h3 : es'.all (!starB ·) = true) (h4 : chkEs Γ N sc fn es es' = true) (ha : PAU X cad W es' (wpEs Γ es)) :
    PEU X cad W (.Call (.Name f.name p) es' [] pos) (wpE Γ (.call k es)) := by
  cases es' with
  | nil =>
    cases es with
    | nil => exact u_call0 hf how (l.fns _ _ hf) l.gd l.room l.tk (l.gl h2)
    | _ => simp [chkEs] at h4
  | cons e es' =>
    have ok := chkEs_okX h3 h4
    exact u_call hf how (l.fns _ _ hf) l.gd l.room l.tk (l.gl h2) ha (star_of (ok _ List.mem_cons_self) _ _) (noStar_any fun e he => ok e (List.mem_cons_of_mem _ he))
theorem u_bi' {sc : Scope} {fn : Str → Bool} {X : Cx} {W : WX} {pos p : Pos} {b : Bi} {es' : List Expr} {es : Es} (l : Lok Γ N cad L sc fn X W) (h2 : glB sc (biS b) = true) (h3 : es'.all (!starB ·) = true) (h5 : (!es'.isEmpty) = true) (h4 : chkEs Γ N sc fn es es' = true) (ha : PAU X cad W es' (wpEs Γ es)) :
    PEU X cad W (.Call (.Name (biS b) p) es' [] pos) (wpE Γ (.bi b es)) := by
  cases es' with
  | nil => simp at h5
  | cons e es' =>
    have ok := chkEs_okX h3 h4
    exact u_bi l.biOk l.calm l.units (l.gl h2) ha (star_of (ok _ List.mem_cons_self) _ _) (noStar_any fun e he => ok e (List.mem_cons_of_mem _ he))
theorem u_isi' {sc : Scope} {fn : Str → Bool} {X : Cx} {W : WX} {pos p p2 : Pos} {t : Ty} {y : Str} {a' : Expr} {a : E} (l : Lok Γ N cad L sc fn X W) (h2 : glB sc ("isinstance" : Str) = true) (h3 : chkTy Γ t y = true) (h5 : glB sc y = true) (h6 : chkE Γ N sc fn a a' = true) (ha : PEU X cad W a' (wpE Γ a)) :
    PEU X cad W (.Call (.Name "isinstance" p) [a', .Name y p2] [] pos) (wpE Γ (.isi a t)) := by
  have hi := l.bi "isinstance" (by decide +kernel)
  have plain : (isTy t && Str.ofString (tyS t) == y) = true → PEU X cad W (.Call (.Name "isinstance" p) [a', .Name y p2] [] pos) (wpE Γ (.isi a t)) := fun z => by
    simp only [Bool.and_eq_true, beq_iff_eq] at z
    obtain ⟨z1, z2⟩ := z
    subst z2
    exact u_isi z1 hi (l.bi _ (by cases t <;> first | decide +kernel | (simp [isTy] at z1; done))) (l.gl h2) (l.gl h5) ha (star_of (chk_okX h6) _ _)
  cases t with
  | own c =>
    have h4 : (match Γ.cls[c]? with | some x => x == y | none => false) = true := h3
    split at h4 <;> try contradiction
    rename_i x hx
    simp only [beq_iff_eq] at h4
    subst h4
    exact u_isiO l.exc (l.cls c _ hx) hi (l.gl h2) (l.gl h5) ha (star_of (chk_okX h6) _ _)
  | bi n =>
    have h7 : (n == "ValueError" && y == ("ValueError" : Str)) = true := h3
    simp only [Bool.and_eq_true, beq_iff_eq] at h7
    obtain ⟨h8, h9⟩ := h7
    subst h8 h9
    exact u_isiV l.exc l.ve hi (l.bi "ValueError" (by decide +kernel)) (l.gl h2) (l.gl h5) ha (star_of (chk_okX h6) _ _)
  | int => exact plain h3
  | bool => exact plain h3
  | str => exact plain h3
  | tuple => exact plain h3
  | list => exact plain h3
  | dict => exact plain h3
theorem chkI_okX {sc : Scope} {fn : Str → Bool} {tg : Expr} {i : I} {e' : Expr} (h : chkI Γ N sc fn tg i e' = true) (x : Value) : ∀ {env : Env}, foldedSetIterable e' env x = pure x := fun {env} => by
  refine folded_of ?_ x
  cases i with
  | seq e => unfold chkI at h; exact chk_okX h
  | chr e => unfold chkI at h; exact chk_okX h
  | _ => cases e' <;> first | rfl | (unfold chkI at h; cases h; done)
/-- targets -/
theorem each_of {sc : Scope} {fn : Str → Bool} {t : T} {e : Expr} (h : chkT N sc fn t e = true) (es : List Expr) (env : Env) : assignEach (e :: es) env = (false, assign e env) :: assignEach es env := by
  unfold chkT at h
  split at h <;> first | (cases h; done) | rfl
theorem chkTs_len : ∀ {ts : Ts} {es : List Expr} {sc : Scope} {fn : Str → Bool} {env : Env}, chkTs N sc fn ts es = true → (assignEach es env).length = lenTs ts ∧ (assignEach es env).findIdx? (·.1) = none
  | .nil, [], sc, fn, env, h => ⟨rfl, rfl⟩
  | .nil, _ :: _, sc, fn, env, h => by simp [chkTs] at h
  | .cons t ts, [], sc, fn, env, h => by simp [chkTs] at h
  | .cons t ts, e :: es, sc, fn, env, h => by
    simp only [chkTs, Bool.and_eq_true] at h
    obtain ⟨i1, i2⟩ := chkTs_len (env := env) h.2
    rw [each_of h.1]
    refine ⟨by rw [List.length_cons, i1]; rfl, ?_⟩
    rw [List.findIdx?_cons, i2]; rfl
mutual
theorem sG : (t : T) → ∀ {sc : Scope} {fn : Str → Bool} {X : Cx} {W : WX} {e' : Expr}, Lok Γ N cad L sc fn X W → chkT N sc fn t e' = true → PG X e' (upg (gx X cad) t)
  | .nm i, sc, fn, X, W, e', l, h => by
    unfold chkT at h
    split at h <;> try contradiction
    rename_i e1
    cases e1
    obtain ⟨h1, h2, h3⟩ := l.bnd h
    exact g_name (by rw [l.hN]; exact l.nd) h1 h2 h3
  | .tp ts, sc, fn, X, W, e', l, h => by
    unfold chkT at h
    split at h <;> try contradiction
    rename_i e1
    cases e1
    exact g_tup l.calm (sGs ts l h) (chkTs_len h).1 (chkTs_len h).2 fun ds δ δ' e => bindTs_len ts ds δ δ' e
theorem sGs : (ts : Ts) → ∀ {sc : Scope} {fn : Str → Bool} {X : Cx} {W : WX} {es' : List Expr}, Lok Γ N cad L sc fn X W → chkTs N sc fn ts es' = true → PGs X es' (upgs (gx X cad) ts)
  | .nil, sc, fn, X, W, es', l, h => by
    unfold chkTs at h
    split at h <;> try contradiction
    exact gs_nil
  | .cons t ts, sc, fn, X, W, es', l, h => by
    unfold chkTs at h
    split at h <;> try contradiction
    rename_i e1
    cases e1
    simp only [Bool.and_eq_true] at h
    exact gs_cons (sG t l h.1) (sGs ts l h.2) (by rw [each_of h.1]; rfl)
end
theorem isZ_of {a : E} (h : isZ a = true) : a = .int 0 := by
  cases a <;> first
    | (simp only [isZ, beq_iff_eq] at h; subst h; rfl)
    | cases h
theorem isNil_of {a : Es} (h : isNil a = true) : a = .nil := by
  cases a <;> first
    | rfl
    | cases h
theorem chkEs_nil {sc : Scope} {fn : Str → Bool} {es : Es} (h : chkEs Γ N sc fn es [] = true) : es = .nil := by
  cases es with
  | nil => rfl
  | cons _ _ => simp [chkEs] at h
  | star _ _ => simp [chkEs] at h
theorem u_mcall' {sc : Scope} {fn : Str → Bool} {X : Cx} {W : WX} {pos ap : Pos} {k : Nat} {m : Str} {o : Expr} {o' : E} {es' : List Expr} {es : Es} (l : Lok Γ N cad L sc fn X W) (h1 : ownB Γ k .meth m = true) (h2 : lineB ap pos = true) (h3 : okS o = true) (h4 : es'.all (!starB ·) = true) (h5 : decide (es'.length < 30) = true)
    (ho : PEU X cad W o (wpE Γ o')) (h6 : chkEs Γ N sc fn es es' = true) (ha : PAU X cad W es' (wpEs Γ es)) : PEU X cad W (.Call (.Attribute o m ap) es' [] pos) (wpE Γ (.mcall k o' es)) := by
  obtain ⟨f, c, hf, how⟩ := ownB_of h1
  cases es' with
  | nil =>
    have e := chkEs_nil h6
    subst e
    exact u_mcall0 hf how (l.fns _ _ hf) l.gd l.room l.tk ho (base_of h3) h2
  | cons e es' =>
    have ok := chkEs_okX h4 h6
    exact u_mcall hf how (l.fns _ _ hf) l.gd l.room l.tk ho ha (base_of h3) (by simpa using h5) h2 (star_of (ok _ List.mem_cons_self) _ _) (noStar_any fun e he => ok e (List.mem_cons_of_mem _ he))
theorem u_new' {sc : Scope} {fn : Str → Bool} {X : Cx} {W : WX} {pos p : Pos} {k : Nat} {x : Str} {es' : List Expr} {es : Es} (l : Lok Γ N cad L sc fn X W) (h1 : newB Γ k x = true) (h2 : glB sc x = true) (h4 : es'.all (!starB ·) = true)
    (h6 : chkEs Γ N sc fn es es' = true) (ha : PAU X cad W es' (wpEs Γ es)) : PEU X cad W (.Call (.Name x p) es' [] pos) (wpE Γ (.new k es)) := by
  obtain ⟨f, c, m, hf, hx, how⟩ := newB_of h1
  subst hx
  have ok := chkEs_okX h4 h6
  refine u_new hf how (l.fns _ _ hf) l.gd l.room l.tk (l.gl h2) ha (fun e r z => ?_) (fun e r z => ?_) fun z => ?_
  · subst z; exact star_of (ok _ List.mem_cons_self) _ _
  · subst z; exact noStar_any fun e he => ok e (List.mem_cons_of_mem _ he)
  · subst z; exact chkEs_nil h6
mutual
theorem sE : (e : E) → ∀ {L : Nat} {sc : Scope} {fn : Str → Bool} {X : Cx} {W : WX} {e' : Expr}, Lok Γ N cad L sc fn X W → chkE Γ N sc fn e e' = true → PEU X cad W e' (wpE Γ e)
  | .nop, L, sc, fn, X, W, e', l, h => ⟨fun pins s σ H Qv I ⟨ρ, δ, α, M, Q', X', rs, rm, t, hq, hx⟩ => by simp only [wpE] at t⟩
  | .var i, L, sc, fn, X, W, e', l, h => by
    simp only [chkE] at h
    split at h <;> try contradiction
    simp only [Bool.and_eq_true, beq_iff_eq, Bool.not_eq_true'] at h
    exact u_var (by rw [l.hN]; exact h.1.1.1) (l.vis h.1.1.2) h.1.2 h.2
  | .non, L, sc, fn, X, W, e', l, h => by
    simp only [chkE] at h
    split at h <;> try contradiction
    simpa only [wpE] using u_con (Γ := Γ) (W := W) (cad := cad) (d := .non) pe_non fun _ _ _ => rfl
  | .bl b, L, sc, fn, X, W, e', l, h => by
    simp only [chkE] at h
    split at h <;> try contradiction
    simp only [beq_iff_eq] at h
    subst h
    simpa only [wpE] using u_con (Γ := Γ) (W := W) (cad := cad) (d := .bl b) pe_bl fun _ _ _ => rfl
  | .int b, L, sc, fn, X, W, e', l, h => by
    simp only [chkE] at h
    split at h <;> try contradiction
    simp only [beq_iff_eq] at h
    subst h
    simpa only [wpE] using u_con (Γ := Γ) (W := W) (cad := cad) (d := .int b) pe_int fun _ _ _ => rfl
  | .str b, L, sc, fn, X, W, e', l, h => by
    simp only [chkE] at h
    split at h <;> try contradiction
    simp only [beq_iff_eq] at h
    subst h
    simpa only [wpE] using u_con (Γ := Γ) (W := W) (cad := cad) (d := .str b) pe_str fun _ _ _ => rfl
  | .cst k, L, sc, fn, X, W, e', l, h => by
    simp only [chkE] at h
    split at h <;> try contradiction
    simp only [Bool.and_eq_true] at h
    obtain ⟨h1, h2⟩ := h
    split at h1 <;> try contradiction
    rename_i c hc
    simp only [beq_iff_eq] at h1
    subst h1
    obtain ⟨hd, v, u, hm, r, rd⟩ := l.cst k c hc
    refine (u_con (Γ := Γ) (W := W) (cad := cad) (pe_glob (l.gl h2) hm r hd) rd).mono fun σ H Qv ⟨ρ, δ, α, M, Q', X', rs, rm, t, hq, hx⟩ => ⟨ρ, δ, α, M, Q', X', rs, rm, ?_, hq, hx⟩
    simpa only [wpE, cstD, hc] using t
  | .bin op a b, L, sc, fn, X, W, e', l, h => by
    simp only [chkE] at h
    split at h <;> try contradiction
    simp only [Bool.and_eq_true, beq_iff_eq] at h
    obtain ⟨⟨h1, h2⟩, h3⟩ := h
    subst h1
    exact u_bin (sE a l h2) (sE b l h3)
  | .neg a, L, sc, fn, X, W, e', l, h => by
    simp only [chkE] at h
    split at h <;> try contradiction
    exact u_neg (sE a l h)
  | .not_ a, L, sc, fn, X, W, e', l, h => by
    simp only [chkE] at h
    split at h <;> try contradiction
    exact u_not (sE a l h)
  | .and_ a b, L, sc, fn, X, W, e', l, h => by
    simp only [chkE] at h
    split at h <;> try contradiction
    · simp only [Bool.and_eq_true] at h
      exact u_and (sE a l h.1) (pe_one (sE b l h.2))
    · simp only [Bool.and_eq_true] at h
      exact u_and (sE a l h.1) (sE b l h.2)
  | .or_ a b, L, sc, fn, X, W, e', l, h => by
    simp only [chkE] at h
    split at h <;> try contradiction
    · simp only [Bool.and_eq_true] at h
      exact u_or (sE a l h.1) (pe_one (sE b l h.2))
    · simp only [Bool.and_eq_true] at h
      exact u_or (sE a l h.1) (sE b l h.2)
  | .ife c a b, L, sc, fn, X, W, e', l, h => by
    simp only [chkE] at h
    split at h <;> try contradiction
    simp only [Bool.and_eq_true] at h
    exact u_ife (sT c l h.1.1) (sE a l h.1.2) (sE b l h.2)
  | .cmp op a b, L, sc, fn, X, W, e', l, h => by
    simp only [chkE] at h
    split at h <;> try contradiction
    simp only [Bool.and_eq_true, beq_iff_eq] at h
    obtain ⟨⟨h1, h2⟩, h3⟩ := h
    subst h1
    exact u_cmp l.units (mark_of (chk_okX h3)) (sE a l h2) (sE b l h3)
  | .chain op op' a b c, L, sc, fn, X, W, e', l, h => by
    simp only [chkE] at h
    split at h <;> try contradiction
    simp only [Bool.and_eq_true, beq_iff_eq] at h
    obtain ⟨⟨⟨⟨h1, h2⟩, h3⟩, h4⟩, h5⟩ := h
    subst h1 h2
    exact u_chain l.units (by show behindInMarks _ _ = false; exact mark_of (chk_okX h5)) (sE a l h3) (sE b l h4) (sE c l h5)
  | .tup es, L, sc, fn, X, W, e', l, h => by
    simp only [chkE] at h
    split at h <;> try contradiction
    exact u_tup (sEs es l h)
  | .lst m es, L, sc, fn, X, W, e', l, h => by
    simp only [chkE] at h
    split at h <;> try contradiction
    exact u_lst (sEs es l h)
  | .idx a i, L, sc, fn, X, W, e', l, h => by
    simp only [chkE] at h
    split at h <;> try contradiction
    simp only [Bool.and_eq_true] at h
    exact u_idx l.units (plainIx_of (chk_okX h.2)) (sE a l h.1) (sE i l h.2)
  | .slc a lo hi, L, sc, fn, X, W, e', l, h => by
    simp only [chkE] at h
    split at h <;> try contradiction
    simp only [Bool.and_eq_true] at h
    exact u_slc (sE a l h.1.1) (sO lo l h.1.2) (sO hi l h.2)
  | .slcm a lo hi, L, sc, fn, X, W, e', l, h => by
    simp only [chkE] at h
    split at h <;> try contradiction
    simp only [Bool.and_eq_true] at h
    exact u_slcm (sE a l h.1.1) (sO lo l h.1.2) (sO hi l h.2)
  | .call k es, L, sc, fn, X, W, e', l, h => by
    simp only [chkE] at h
    split at h <;> try contradiction
    simp only [Bool.and_eq_true] at h
    obtain ⟨⟨⟨h1, h2⟩, h3⟩, h4⟩ := h
    split at h1 <;> try contradiction
    rename_i f hf
    simp only [Bool.and_eq_true, beq_iff_eq, Option.isNone_iff_eq_none] at h1
    obtain ⟨h1, how⟩ := h1
    subst h1
    exact u_call' l hf how h2 h3 h4 (sEs es l h4)
  | .callk k es ks, L, sc, fn, X, W, e', l, h => by
    simp only [chkE] at h
    split at h <;> try contradiction
    simp only [Bool.and_eq_true] at h
    obtain ⟨⟨⟨h0, h1⟩, h2⟩, h4⟩ := h
    obtain rfl := isNil_of h0
    split at h1 <;> try contradiction
    rename_i f hf
    simp only [Bool.and_eq_true, beq_iff_eq, Option.isNone_iff_eq_none] at h1
    obtain ⟨⟨⟨h1, h5⟩, h6⟩, how⟩ := h1
    subst h1
    obtain ⟨i1, i2, i3⟩ := kw_names (pos := default) (env := X.env) h6
    exact u_callk hf how (l.fns _ _ hf) h5 l.gd l.room l.tk (l.gl h2) (sKs ks l h4) (kw_names h6).1 (kw_names h6).2.1 (by show (false || _) = false; rw [Bool.false_or]; exact (kw_names h6).2.2)
  | .bi b es, L, sc, fn, X, W, e', l, h => by
    simp only [chkE] at h
    split at h <;> try contradiction
    simp only [Bool.and_eq_true, beq_iff_eq] at h
    obtain ⟨⟨⟨⟨h1, h2⟩, h3⟩, h5⟩, h4⟩ := h
    subst h1
    exact u_bi' l h2 h3 h5 h4 (sEs es l h4)
  | .isi a t, L, sc, fn, X, W, e', l, h => by
    simp only [chkE] at h
    split at h <;> try contradiction
    simp only [Bool.and_eq_true, beq_iff_eq] at h
    obtain ⟨⟨⟨⟨h1, h2⟩, h3⟩, h5⟩, h6⟩ := h
    subst h1
    exact u_isi' l h2 h3 h5 h6 (sE a l h6)
  | .comp m own t it c e, L, sc, fn, X, W, e', l, h => by
    simp only [chkE] at h
    split at h <;> try contradiction
    simp only [Bool.and_eq_true, beq_iff_eq] at h
    obtain ⟨⟨⟨⟨⟨⟨h1, h2⟩, h3⟩, h4⟩, h5⟩, h6⟩, h7⟩ := h
    have ok := blkOk_by h1
    refine u_comp l.calm (by rw [l.hN]; exact l.nd) (sI it l h4) (by rw [l.hN, l.hsc]; exact ok) (fun i hi => ?_) (fun s H C cl fp => sG t (l.blk h3 s H C cl fp) h5) (fun s H C cl fp => sC c (l.blk h3 s H C cl fp) h6) (fun s H C cl fp => sE e (l.blk h3 s H C cl fp) h7) (fun x => chkI_okX h4 x)
    have := List.all_eq_true.mp h2 i hi
    simpa using this
  | .app a e, L, sc, fn, X, W, e', l, h => by
    simp only [chkE] at h
    split at h <;> try contradiction
    simp only [Bool.and_eq_true, beq_iff_eq] at h
    obtain ⟨⟨⟨⟨h1, h2⟩, h3⟩, h4⟩, h5⟩ := h
    subst h1
    exact u_app (sE a l h4) (sE e l h5) (base_of h3) (by rw [star_of (chk_okX h5)]; rfl) h2 (star_of (chk_okX h5) _ _)
  | .ext a e, L, sc, fn, X, W, e', l, h => by
    simp only [chkE] at h
    split at h <;> try contradiction
    simp only [Bool.and_eq_true, beq_iff_eq] at h
    obtain ⟨⟨⟨⟨h1, h2⟩, h3⟩, h4⟩, h5⟩ := h
    subst h1
    exact u_ext (sE a l h4) (sE e l h5) (base_of h3) (by rw [star_of (chk_okX h5)]; rfl) h2 (star_of (chk_okX h5) _ _)
  | .lsti m a b, L, sc, fn, X, W, e', l, h => by
    simp only [chkE] at h
    split at h <;> try contradiction
    · simp only [Bool.and_eq_true, beq_iff_eq] at h
      obtain ⟨⟨⟨⟨⟨h0, h1⟩, h2⟩, h3⟩, h4⟩, h5⟩ := h
      obtain rfl := isZ_of h0
      subst h1 h2
      exact u_lsti1 l.calm (l.gl h3) (l.bi _ (by decide +kernel)) (l.gl h4) (l.bi _ (by decide +kernel)) (sE b l h5) (star_of (chk_okX h5) _ _)
    · simp only [Bool.and_eq_true, beq_iff_eq] at h
      obtain ⟨⟨⟨⟨⟨h1, h2⟩, h3⟩, h4⟩, h5⟩, h6⟩ := h
      subst h1 h2
      exact u_lsti2 l.calm (l.gl h3) (l.bi _ (by decide +kernel)) (l.gl h4) (l.bi _ (by decide +kernel)) (sE a l h5) (sE b l h6) (star_of (chk_okX h5) _ _) (star_of (chk_okX h6) _ _)
  | .dic0, L, sc, fn, X, W, e', l, h => by
    simp only [chkE] at h
    split at h <;> try contradiction
    exact u_dic0
  | .rev a, L, sc, fn, X, W, e', l, h => by
    simp only [chkE] at h
    split at h <;> try contradiction
    exact u_rev (sE a l h)
  | .lst3 m a b c, L, sc, fn, X, W, e', l, h => by
    simp only [chkE] at h
    split at h <;> try contradiction
    simp only [Bool.and_eq_true, beq_iff_eq] at h
    obtain ⟨⟨⟨⟨⟨⟨h1, h2⟩, h3⟩, h4⟩, h5⟩, h6⟩, h7⟩ := h
    subst h1 h2
    exact u_lst3 l.calm (l.gl h3) (l.bi _ (by decide +kernel)) (l.gl h4) (l.bi _ (by decide +kernel)) (sE a l h5) (sE b l h6) (sE c l h7) (star_of (chk_okX h5) _ _) (star_of (chk_okX h6) _ _) (star_of (chk_okX h7) _ _)
  | .fld a x, L, sc, fn, X, W, e', l, h => by
    simp only [chkE] at h
    split at h <;> try contradiction
    simp only [Bool.and_eq_true, beq_iff_eq] at h
    obtain ⟨⟨⟨h1, h2⟩, h3⟩, h4⟩ := h
    subst h2
    subst h1
    exact u_fld l.exc (sE a l h4) (base_of h3)
  | .attr a x, L, sc, fn, X, W, e', l, h => by
    simp only [chkE] at h
    split at h <;> try contradiction
    simp only [Bool.and_eq_true, beq_iff_eq] at h
    obtain ⟨⟨h1, h2⟩, h3⟩ := h
    subst h1
    exact u_attr l.ats (sE a l h3) (base_of h2)
  | .prop k a, L, sc, fn, X, W, e', l, h => by
    simp only [chkE] at h
    split at h <;> try contradiction
    simp only [Bool.and_eq_true] at h
    obtain ⟨⟨h1, h2⟩, h3⟩ := h
    obtain ⟨f, c, hf, how⟩ := ownB_of h1
    exact u_prop hf how (l.fns _ _ hf) l.gd l.room (sE a l h3) (base_of h2)
  | .mcall k a es, L, sc, fn, X, W, e', l, h => by
    simp only [chkE] at h
    split at h <;> try contradiction
    simp only [Bool.and_eq_true] at h
    obtain ⟨⟨⟨⟨⟨⟨h1, h2⟩, h3⟩, h4⟩, h5⟩, h6⟩, h7⟩ := h
    exact u_mcall' l h1 h2 h3 h4 h5 (sE a l h6) h7 (sEs es l h7)
  | .new k es, L, sc, fn, X, W, e', l, h => by
    simp only [chkE] at h
    split at h <;> try contradiction
    simp only [Bool.and_eq_true] at h
    obtain ⟨⟨⟨h1, h2⟩, h3⟩, h4⟩ := h
    exact u_new' l h1 h2 h3 h4 (sEs es l h4)
  | .isin a c, L, sc, fn, X, W, e', l, h => by
    simp only [chkE] at h
    split at h <;> try contradiction
    simp only [Bool.and_eq_true, beq_iff_eq] at h
    obtain ⟨⟨⟨⟨h1, h2⟩, h3⟩, h5⟩, h6⟩ := h
    subst h1
    exact u_isin (l.ins _ (List.contains_iff_mem.mp h3)) (l.bi "isinstance" (by decide +kernel)) (l.gl h2) (l.gl h5) (sE a l h6) (star_of (chk_okX h6) _ _)
  | .dget a k d, L, sc, fn, X, W, e', l, h => by
    simp only [chkE] at h
    split at h <;> try contradiction
    simp only [Bool.and_eq_true, beq_iff_eq] at h
    obtain ⟨⟨⟨⟨⟨h1, h2⟩, h3⟩, h4⟩, h5⟩, h6⟩ := h
    subst h1
    exact u_dget (Nat.lt_of_le_of_lt (Nat.add_le_add_left (by decide) _) l.units) (sE a l h4) (sE k l h5) (sE d l h6) ⟨base_of h3, by rw [star_of (chk_okX h5), star_of (chk_okX h6)]; rfl, h2, by rw [star_of (chk_okX h5), star_of (chk_okX h6)]; rfl⟩
  | .dnew, L, sc, fn, X, W, e', l, h => by
    simp only [chkE] at h
    split at h <;> try contradiction
    exact u_dnew
  | .split a e, L, sc, fn, X, W, e', l, h => by
    simp only [chkE] at h
    split at h <;> try contradiction
    simp only [Bool.and_eq_true, beq_iff_eq] at h
    obtain ⟨⟨⟨⟨h1, h2⟩, h3⟩, h4⟩, h5⟩ := h
    subst h1
    exact u_split (sE a l h4) (sE e l h5) (by rw [star_of (chk_okX h5)]; rfl) (base_of h3) h2
  | .tupr a b, L, sc, fn, X, W, e', l, h => by
    simp only [chkE] at h
    split at h <;> try contradiction
    simp only [Bool.and_eq_true, beq_iff_eq] at h
    obtain ⟨⟨⟨⟨⟨h1, h2⟩, h3⟩, h4⟩, h5⟩, h6⟩ := h
    subst h1 h2
    exact u_tupr l.calm (l.gl h3) (l.bi _ (by decide +kernel)) (l.gl h4) (l.bi _ (by decide +kernel)) (sE a l h5) (sE b l h6) (star_of (chk_okX h5) _ _) (star_of (chk_okX h6) _ _)
  | .pop a, L, sc, fn, X, W, e', l, h => by
    simp only [chkE] at h
    split at h <;> try contradiction
    simp only [Bool.and_eq_true, beq_iff_eq] at h
    obtain ⟨⟨⟨h1, h2⟩, h3⟩, h4⟩ := h
    subst h1
    exact u_pop (sE a l h4) (base_of h3) h2
  | .popi a e, L, sc, fn, X, W, e', l, h => by
    simp only [chkE] at h
    split at h <;> try contradiction
    simp only [Bool.and_eq_true, beq_iff_eq] at h
    obtain ⟨⟨⟨⟨h1, h2⟩, h3⟩, h4⟩, h5⟩ := h
    subst h1
    exact u_popi (sE a l h4) (sE e l h5) (base_of h3) (by rw [star_of (chk_okX h5)]; rfl) h2 (star_of (chk_okX h5) _ _)
  | .lstm a, L, sc, fn, X, W, e', l, h => by
    simp only [chkE] at h
    split at h <;> try contradiction
    simp only [Bool.and_eq_true, beq_iff_eq] at h
    obtain ⟨⟨⟨h1, h2⟩, h3⟩, h4⟩ := h
    subst h1
    exact u_lstm (l.gl h2) (l.bi _ (by decide +kernel)) (sE a l h4) (star_of (chk_okX h4) _ _)
  | .revm a, L, sc, fn, X, W, e', l, h => by
    simp only [chkE] at h
    split at h <;> try contradiction
    exact u_revm (sE a l h)
  | .sset a, L, sc, fn, X, W, e', l, h => by
    simp only [chkE] at h
    split at h <;> try contradiction
    simp only [Bool.and_eq_true, beq_iff_eq] at h
    obtain ⟨⟨⟨⟨h1, h2⟩, h3⟩, h4⟩, h5⟩ := h
    subst h1 h2
    exact u_sset l.calm (l.gl h3) (l.bi _ (by decide +kernel)) (l.gl h4) (l.bi _ (by decide +kernel)) (sE a l h5) (star_of (chk_okX h5) _ _)
  | .lenset a, L, sc, fn, X, W, e', l, h => by
    simp only [chkE] at h
    split at h <;> try contradiction
    simp only [Bool.and_eq_true, beq_iff_eq] at h
    obtain ⟨⟨⟨⟨h1, h2⟩, h3⟩, h4⟩, h5⟩ := h
    subst h1 h2
    exact u_lenset l.calm (l.gl h3) (l.bi _ (by decide +kernel)) (l.gl h4) (l.bi _ (by decide +kernel)) (sE a l h5) (star_of (chk_okX h5) _ _)
  | .catl m a b, L, sc, fn, X, W, e', l, h => by
    simp only [chkE] at h
    split at h <;> try contradiction
    simp only [Bool.and_eq_true] at h
    exact u_catl (sE a l h.1) (sE b l h.2)
  | .hear k c a, L, sc, fn, X, W, e', l, h => by
    simp only [chkE] at h
    split at h <;> try contradiction
    simp only [Bool.and_eq_true, beq_iff_eq, decide_eq_true_eq] at h
    obtain ⟨⟨⟨⟨⟨⟨⟨h1, h2⟩, h3⟩, h4⟩, h5⟩, h6⟩, h7⟩, h8⟩ := h
    subst h1
    have Ls : LamX.LamS X.env.scope _ := LamX.lamS_by (by rw [l.hsc]; exact h5)
    exact u_hear l (l.tb h6 h7) h3 (l.gl h2) Ls h4 fun L2 A outer s H E f c' fns hA hR =>
      sE a (Lok.lam l Ls A outer s H E f c' fns hA hR) h8
  | .join a e, L, sc, fn, X, W, e', l, h => by
    simp only [chkE] at h
    split at h <;> try contradiction
    simp only [Bool.and_eq_true, beq_iff_eq] at h
    obtain ⟨⟨⟨⟨h1, h2⟩, h3⟩, h4⟩, h5⟩ := h
    subst h1
    exact u_join (sE a l h4) (sE e l h5) (star_of (chk_okX h5) _ _) (base_of h3) h2
  | .cnt a e, L, sc, fn, X, W, e', l, h => by
    simp only [chkE] at h
    split at h <;> try contradiction
    simp only [Bool.and_eq_true, beq_iff_eq] at h
    obtain ⟨⟨⟨⟨h1, h2⟩, h3⟩, h4⟩, h5⟩ := h
    subst h1
    exact u_cnt (sE a l h4) (sE e l h5) (star_of (chk_okX h5) _ _) (base_of h3) h2
theorem sT : (e : E) → ∀ {L : Nat} {sc : Scope} {fn : Str → Bool} {X : Cx} {W : WX} {e' : Expr}, Lok Γ N cad L sc fn X W → chkE Γ N sc fn e e' = true → PTU X cad W e' (wpT Γ e)
  | .and_ a b, L, sc, fn, X, W, e', l, h => by
    simp only [chkE] at h
    split at h <;> try contradiction
    · simp only [Bool.and_eq_true] at h
      exact (u_andT (sT a l h.1) (pw_and1 (sT b l h.2))).pt
    · simp only [Bool.and_eq_true] at h
      exact (u_andT (sT a l h.1) (sW b l h.2 rfl)).pt
  | .or_ a b, L, sc, fn, X, W, e', l, h => by
    simp only [chkE] at h
    split at h <;> try contradiction
    · simp only [Bool.and_eq_true] at h
      exact (u_orT (sT a l h.1) (pw_or1 (sT b l h.2))).pt
    · simp only [Bool.and_eq_true] at h
      exact (u_orT (sT a l h.1) (sW b l h.2 rfl)).pt
  | .not_ a, L, sc, fn, X, W, e', l, h => by
    simp only [chkE] at h
    split at h <;> try contradiction
    exact u_notT (sT a l h)
  | .ife c a b, L, sc, fn, X, W, e', l, h => by
    simp only [chkE] at h
    split at h <;> try contradiction
    simp only [Bool.and_eq_true] at h
    exact u_ifeT (sT c l h.1.1) (sT a l h.1.2) (sT b l h.2)
  | .cmp op a b, L, sc, fn, X, W, e', l, h => by
    simp only [chkE] at h
    split at h <;> try contradiction
    simp only [Bool.and_eq_true, beq_iff_eq] at h
    obtain ⟨⟨h1, h2⟩, h3⟩ := h
    subst h1
    exact u_cmpT l.units (mark_of (chk_okX h3)) (sE a l h2) (sE b l h3)
  | .chain op op' a b c, L, sc, fn, X, W, e', l, h => by
    simp only [chkE] at h
    split at h <;> try contradiction
    simp only [Bool.and_eq_true, beq_iff_eq] at h
    obtain ⟨⟨⟨⟨h1, h2⟩, h3⟩, h4⟩, h5⟩ := h
    subst h1 h2
    exact u_chainT l.units (by show behindInMarks _ _ = false; exact mark_of (chk_okX h5)) (sE a l h3) (sE b l h4) (sE c l h5)
  | .var i, L, sc, fn, X, W, e', l, h => by
    simp only [chkE] at h
    split at h <;> try contradiction
    simp only [Bool.and_eq_true, beq_iff_eq, Bool.not_eq_true'] at h
    exact u_truth rfl (u_var (Γ := Γ) (i := i) (by rw [l.hN]; exact h.1.1.1) (l.vis h.1.1.2) h.1.2 h.2) fun δ M Q Xc h => by simpa only [wpT, wpE] using h
  | .bl b, L, sc, fn, X, W, e', l, h => by
    simp only [chkE] at h
    split at h <;> try contradiction
    simp only [beq_iff_eq] at h
    subst h
    exact u_truth rfl (u_con (Γ := Γ) (W := W) (cad := cad) (d := .bl b) pe_bl fun _ _ _ => rfl) fun δ M Q Xc h => by simpa only [wpT, asTru, truD] using h
  | .call k es, L, sc, fn, X, W, e', l, h => by
    simp only [chkE] at h
    split at h <;> try contradiction
    simp only [Bool.and_eq_true] at h
    obtain ⟨⟨⟨h1, h2⟩, h3⟩, h4⟩ := h
    split at h1 <;> try contradiction
    rename_i f hf
    simp only [Bool.and_eq_true, beq_iff_eq, Option.isNone_iff_eq_none] at h1
    obtain ⟨h1, how⟩ := h1
    subst h1
    exact u_truth rfl (u_call' l hf how h2 h3 h4 (sEs es l h4)) fun δ M Q Xc h => by simpa only [wpT, wpE] using h
  | .bi b es, L, sc, fn, X, W, e', l, h => by
    simp only [chkE] at h
    split at h <;> try contradiction
    simp only [Bool.and_eq_true, beq_iff_eq] at h
    obtain ⟨⟨⟨⟨h1, h2⟩, h3⟩, h5⟩, h4⟩ := h
    subst h1
    exact u_truth rfl (u_bi' l h2 h3 h5 h4 (sEs es l h4)) fun δ M Q Xc h => by simpa only [wpT, wpE] using h
  | .isi a t, L, sc, fn, X, W, e', l, h => by
    simp only [chkE] at h
    split at h <;> try contradiction
    simp only [Bool.and_eq_true, beq_iff_eq] at h
    obtain ⟨⟨⟨⟨h1, h2⟩, h3⟩, h5⟩, h6⟩ := h
    subst h1
    exact u_truth rfl (u_isi' l h2 h3 h5 h6 (sE a l h6)) fun δ M Q Xc h => by simpa only [wpT, wpE, asTru, truD] using h
  | .idx a i, L, sc, fn, X, W, e', l, h => by
    simp only [chkE] at h
    split at h <;> try contradiction
    simp only [Bool.and_eq_true] at h
    exact u_truth rfl (u_idx l.units (plainIx_of (chk_okX h.2)) (sE a l h.1) (sE i l h.2)) fun δ M Q Xc h => by simpa only [wpT, wpE] using h
  | .nop, L, sc, fn, X, W, e', l, h => t_false fun δ M Q Xc h => by simp only [wpT] at h
  | .non, L, sc, fn, X, W, e', l, h => t_false fun δ M Q Xc h => by simp only [wpT] at h
  | .int _, L, sc, fn, X, W, e', l, h => t_false fun δ M Q Xc h => by simp only [wpT] at h
  | .str _, L, sc, fn, X, W, e', l, h => t_false fun δ M Q Xc h => by simp only [wpT] at h
  | .cst _, L, sc, fn, X, W, e', l, h => t_false fun δ M Q Xc h => by simp only [wpT] at h
  | .bin _ _ _, L, sc, fn, X, W, e', l, h => t_false fun δ M Q Xc h => by simp only [wpT] at h
  | .neg _, L, sc, fn, X, W, e', l, h => t_false fun δ M Q Xc h => by simp only [wpT] at h
  | .tup _, L, sc, fn, X, W, e', l, h => t_false fun δ M Q Xc h => by simp only [wpT] at h
  | .lst _ _, L, sc, fn, X, W, e', l, h => t_false fun δ M Q Xc h => by simp only [wpT] at h
  | .slc _ _ _, L, sc, fn, X, W, e', l, h => t_false fun δ M Q Xc h => by simp only [wpT] at h
  | .slcm _ _ _, L, sc, fn, X, W, e', l, h => t_false fun δ M Q Xc h => by simp only [wpT] at h
  | .callk _ _ _, L, sc, fn, X, W, e', l, h => t_false fun δ M Q Xc h => by simp only [wpT] at h
  | .comp _ _ _ _ _ _, L, sc, fn, X, W, e', l, h => t_false fun δ M Q Xc h => by simp only [wpT] at h
  | .lsti _ _ _, L, sc, fn, X, W, e', l, h => t_false fun δ M Q Xc h => by simp only [wpT] at h
  | .fld _ _, L, sc, fn, X, W, e', l, h => t_false fun δ M Q Xc h => by simp only [wpT] at h
  | .app _ _, L, sc, fn, X, W, e', l, h => t_false fun δ M Q Xc h => by simp only [wpT] at h
  | .ext _ _, L, sc, fn, X, W, e', l, h => t_false fun δ M Q Xc h => by simp only [wpT] at h
  | .attr a x, L, sc, fn, X, W, e', l, h => by
    simp only [chkE] at h
    split at h <;> try contradiction
    simp only [Bool.and_eq_true, beq_iff_eq] at h
    obtain ⟨⟨h1, h2⟩, h3⟩ := h
    subst h1
    exact u_truth rfl (u_attr l.ats (sE a l h3) (base_of h2)) fun δ M Q Xc h => by simpa only [wpT, wpE] using h
  | .isin a c, L, sc, fn, X, W, e', l, h => by
    simp only [chkE] at h
    split at h <;> try contradiction
    simp only [Bool.and_eq_true, beq_iff_eq] at h
    obtain ⟨⟨⟨⟨h1, h2⟩, h3⟩, h5⟩, h6⟩ := h
    subst h1
    exact u_truth rfl (u_isin (l.ins _ (List.contains_iff_mem.mp h3)) (l.bi "isinstance" (by decide +kernel)) (l.gl h2) (l.gl h5) (sE a l h6) (star_of (chk_okX h6) _ _)) fun δ M Q Xc h => by simpa only [wpT, wpE, asTru, truD] using h
  | .mcall k a es, L, sc, fn, X, W, e', l, h => by
    simp only [chkE] at h
    split at h <;> try contradiction
    simp only [Bool.and_eq_true] at h
    obtain ⟨⟨⟨⟨⟨⟨h1, h2⟩, h3⟩, h4⟩, h5⟩, h6⟩, h7⟩ := h
    exact u_truth rfl (u_mcall' l h1 h2 h3 h4 h5 (sE a l h6) h7 (sEs es l h7)) fun δ M Q Xc h => by simpa only [wpT, wpE] using h
  | .prop _ _, L, sc, fn, X, W, e', l, h => t_false fun δ M Q Xc h => by simp only [wpT] at h
  | .new _ _, L, sc, fn, X, W, e', l, h => t_false fun δ M Q Xc h => by simp only [wpT] at h
  | .dget _ _ _, L, sc, fn, X, W, e', l, h => t_false fun δ M Q Xc h => by simp only [wpT] at h
  | .dnew, L, sc, fn, X, W, e', l, h => t_false fun δ M Q Xc h => by simp only [wpT] at h
  | .split _ _, L, sc, fn, X, W, e', l, h => t_false fun δ M Q Xc h => by simp only [wpT] at h
  | .tupr _ _, L, sc, fn, X, W, e', l, h => t_false fun δ M Q Xc h => by simp only [wpT] at h
  | .pop _, L, sc, fn, X, W, e', l, h => t_false fun δ M Q Xc h => by simp only [wpT] at h
  | .popi _ _, L, sc, fn, X, W, e', l, h => t_false fun δ M Q Xc h => by simp only [wpT] at h
  | .lstm _, L, sc, fn, X, W, e', l, h => t_false fun δ M Q Xc h => by simp only [wpT] at h
  | .revm _, L, sc, fn, X, W, e', l, h => t_false fun δ M Q Xc h => by simp only [wpT] at h
  | .sset _, L, sc, fn, X, W, e', l, h => t_false fun δ M Q Xc h => by simp only [wpT] at h
  | .lenset _, L, sc, fn, X, W, e', l, h => t_false fun δ M Q Xc h => by simp only [wpT] at h
  | .catl _ _ _, L, sc, fn, X, W, e', l, h => t_false fun δ M Q Xc h => by simp only [wpT] at h
  | .dic0, L, sc, fn, X, W, e', l, h => t_false fun δ M Q Xc h => by simp only [wpT] at h
  | .rev _, L, sc, fn, X, W, e', l, h => t_false fun δ M Q Xc h => by simp only [wpT] at h
  | .lst3 _ _ _ _, L, sc, fn, X, W, e', l, h => t_false fun δ M Q Xc h => by simp only [wpT] at h
  | .hear _ _ _, L, sc, fn, X, W, e', l, h => t_false fun δ M Q Xc h => by simp only [wpT] at h
  | .cnt _ _, L, sc, fn, X, W, e', l, h => t_false fun δ M Q Xc h => by simp only [wpT] at h
  | .join _ _, L, sc, fn, X, W, e', l, h => t_false fun δ M Q Xc h => by simp only [wpT] at h
theorem sW : (e : E) → ∀ {L : Nat} {sc : Scope} {fn : Str → Bool} {X : Cx} {W : WX} {e' : Expr}, Lok Γ N cad L sc fn X W → chkE Γ N sc fn e e' = true → isBoolE e' = true → PWU X cad W e' (wpT Γ e)
  | .and_ a b, L, sc, fn, X, W, e', l, h, hb => by
    clear hb
    simp only [chkE] at h
    split at h <;> try contradiction
    · simp only [Bool.and_eq_true] at h
      exact u_andT (sT a l h.1) (pw_and1 (sT b l h.2))
    · simp only [Bool.and_eq_true] at h
      exact u_andT (sT a l h.1) (sW b l h.2 rfl)
  | .or_ a b, L, sc, fn, X, W, e', l, h, hb => by
    clear hb
    simp only [chkE] at h
    split at h <;> try contradiction
    · simp only [Bool.and_eq_true] at h
      exact u_orT (sT a l h.1) (pw_or1 (sT b l h.2))
    · simp only [Bool.and_eq_true] at h
      exact u_orT (sT a l h.1) (sW b l h.2 rfl)
  | .nop, L, sc, fn, X, W, e', l, h, hb => ⟨fun wh pins s σ H Qv I ⟨ρ, δ, α, M, Q', X', rs, rm, t, hq, hx⟩ => by simp only [wpT] at t⟩
  | .var _, L, sc, fn, X, W, e', l, h, hb => by simp only [chkE] at h; first | (cases h; done) | (split at h <;> first | contradiction | (cases h; done) | (cases hb; done))
  | .non, L, sc, fn, X, W, e', l, h, hb => by simp only [chkE] at h; first | (cases h; done) | (split at h <;> first | contradiction | (cases h; done) | (cases hb; done))
  | .bl _, L, sc, fn, X, W, e', l, h, hb => by simp only [chkE] at h; first | (cases h; done) | (split at h <;> first | contradiction | (cases h; done) | (cases hb; done))
  | .int _, L, sc, fn, X, W, e', l, h, hb => by simp only [chkE] at h; first | (cases h; done) | (split at h <;> first | contradiction | (cases h; done) | (cases hb; done))
  | .str _, L, sc, fn, X, W, e', l, h, hb => by simp only [chkE] at h; first | (cases h; done) | (split at h <;> first | contradiction | (cases h; done) | (cases hb; done))
  | .cst _, L, sc, fn, X, W, e', l, h, hb => by simp only [chkE] at h; first | (cases h; done) | (split at h <;> first | contradiction | (cases h; done) | (cases hb; done))
  | .bin _ _ _, L, sc, fn, X, W, e', l, h, hb => by simp only [chkE] at h; first | (cases h; done) | (split at h <;> first | contradiction | (cases h; done) | (cases hb; done))
  | .neg _, L, sc, fn, X, W, e', l, h, hb => by simp only [chkE] at h; first | (cases h; done) | (split at h <;> first | contradiction | (cases h; done) | (cases hb; done))
  | .not_ _, L, sc, fn, X, W, e', l, h, hb => by simp only [chkE] at h; first | (cases h; done) | (split at h <;> first | contradiction | (cases h; done) | (cases hb; done))
  | .ife _ _ _, L, sc, fn, X, W, e', l, h, hb => by simp only [chkE] at h; first | (cases h; done) | (split at h <;> first | contradiction | (cases h; done) | (cases hb; done))
  | .cmp _ _ _, L, sc, fn, X, W, e', l, h, hb => by simp only [chkE] at h; first | (cases h; done) | (split at h <;> first | contradiction | (cases h; done) | (cases hb; done))
  | .chain _ _ _ _ _, L, sc, fn, X, W, e', l, h, hb => by simp only [chkE] at h; first | (cases h; done) | (split at h <;> first | contradiction | (cases h; done) | (cases hb; done))
  | .tup _, L, sc, fn, X, W, e', l, h, hb => by simp only [chkE] at h; first | (cases h; done) | (split at h <;> first | contradiction | (cases h; done) | (cases hb; done))
  | .lst _ _, L, sc, fn, X, W, e', l, h, hb => by simp only [chkE] at h; first | (cases h; done) | (split at h <;> first | contradiction | (cases h; done) | (cases hb; done))
  | .idx _ _, L, sc, fn, X, W, e', l, h, hb => by simp only [chkE] at h; first | (cases h; done) | (split at h <;> first | contradiction | (cases h; done) | (cases hb; done))
  | .slc _ _ _, L, sc, fn, X, W, e', l, h, hb => by simp only [chkE] at h; first | (cases h; done) | (split at h <;> first | contradiction | (cases h; done) | (cases hb; done))
  | .slcm _ _ _, L, sc, fn, X, W, e', l, h, hb => by simp only [chkE] at h; first | (cases h; done) | (split at h <;> first | contradiction | (cases h; done) | (cases hb; done))
  | .call _ _, L, sc, fn, X, W, e', l, h, hb => by simp only [chkE] at h; first | (cases h; done) | (split at h <;> first | contradiction | (cases h; done) | (cases hb; done))
  | .callk _ _ _, L, sc, fn, X, W, e', l, h, hb => by simp only [chkE] at h; first | (cases h; done) | (split at h <;> first | contradiction | (cases h; done) | (cases hb; done))
  | .bi _ _, L, sc, fn, X, W, e', l, h, hb => by simp only [chkE] at h; first | (cases h; done) | (split at h <;> first | contradiction | (cases h; done) | (cases hb; done))
  | .isi _ _, L, sc, fn, X, W, e', l, h, hb => by simp only [chkE] at h; first | (cases h; done) | (split at h <;> first | contradiction | (cases h; done) | (cases hb; done))
  | .comp _ _ _ _ _ _, L, sc, fn, X, W, e', l, h, hb => by simp only [chkE] at h; first | (cases h; done) | (split at h <;> first | contradiction | (cases h; done) | (cases hb; done))
  | .lsti _ _ _, L, sc, fn, X, W, e', l, h, hb => by simp only [chkE] at h; first | (cases h; done) | (split at h <;> first | contradiction | (cases h; done) | (cases hb; done))
  | .fld _ _, L, sc, fn, X, W, e', l, h, hb => by simp only [chkE] at h; first | (cases h; done) | (split at h <;> first | contradiction | (cases h; done) | (cases hb; done))
  | .app _ _, L, sc, fn, X, W, e', l, h, hb => by simp only [chkE] at h; first | (cases h; done) | (split at h <;> first | contradiction | (cases h; done) | (cases hb; done))
  | .ext _ _, L, sc, fn, X, W, e', l, h, hb => by simp only [chkE] at h; first | (cases h; done) | (split at h <;> first | contradiction | (cases h; done) | (cases hb; done))
  | .attr _ _, L, sc, fn, X, W, e', l, h, hb => by simp only [chkE] at h; first | (cases h; done) | (split at h <;> first | contradiction | (cases h; done) | (cases hb; done))
  | .prop _ _, L, sc, fn, X, W, e', l, h, hb => by simp only [chkE] at h; first | (cases h; done) | (split at h <;> first | contradiction | (cases h; done) | (cases hb; done))
  | .mcall _ _ _, L, sc, fn, X, W, e', l, h, hb => by simp only [chkE] at h; first | (cases h; done) | (split at h <;> first | contradiction | (cases h; done) | (cases hb; done))
  | .new _ _, L, sc, fn, X, W, e', l, h, hb => by simp only [chkE] at h; first | (cases h; done) | (split at h <;> first | contradiction | (cases h; done) | (cases hb; done))
  | .isin _ _, L, sc, fn, X, W, e', l, h, hb => by simp only [chkE] at h; first | (cases h; done) | (split at h <;> first | contradiction | (cases h; done) | (cases hb; done))
  | .dget _ _ _, L, sc, fn, X, W, e', l, h, hb => by simp only [chkE] at h; first | (cases h; done) | (split at h <;> first | contradiction | (cases h; done) | (cases hb; done))
  | .dnew, L, sc, fn, X, W, e', l, h, hb => by simp only [chkE] at h; first | (cases h; done) | (split at h <;> first | contradiction | (cases h; done) | (cases hb; done))
  | .split _ _, L, sc, fn, X, W, e', l, h, hb => by simp only [chkE] at h; first | (cases h; done) | (split at h <;> first | contradiction | (cases h; done) | (cases hb; done))
  | .tupr _ _, L, sc, fn, X, W, e', l, h, hb => by simp only [chkE] at h; first | (cases h; done) | (split at h <;> first | contradiction | (cases h; done) | (cases hb; done))
  | .pop _, L, sc, fn, X, W, e', l, h, hb => by simp only [chkE] at h; first | (cases h; done) | (split at h <;> first | contradiction | (cases h; done) | (cases hb; done))
  | .popi _ _, L, sc, fn, X, W, e', l, h, hb => by simp only [chkE] at h; first | (cases h; done) | (split at h <;> first | contradiction | (cases h; done) | (cases hb; done))
  | .cnt _ _, L, sc, fn, X, W, e', l, h, hb => by simp only [chkE] at h; first | (cases h; done) | (split at h <;> first | contradiction | (cases h; done) | (cases hb; done))
  | .lstm _, L, sc, fn, X, W, e', l, h, hb => by simp only [chkE] at h; first | (cases h; done) | (split at h <;> first | contradiction | (cases h; done) | (cases hb; done))
  | .revm _, L, sc, fn, X, W, e', l, h, hb => by simp only [chkE] at h; first | (cases h; done) | (split at h <;> first | contradiction | (cases h; done) | (cases hb; done))
  | .sset _, L, sc, fn, X, W, e', l, h, hb => by simp only [chkE] at h; first | (cases h; done) | (split at h <;> first | contradiction | (cases h; done) | (cases hb; done))
  | .lenset _, L, sc, fn, X, W, e', l, h, hb => by simp only [chkE] at h; first | (cases h; done) | (split at h <;> first | contradiction | (cases h; done) | (cases hb; done))
  | .catl _ _ _, L, sc, fn, X, W, e', l, h, hb => by simp only [chkE] at h; first | (cases h; done) | (split at h <;> first | contradiction | (cases h; done) | (cases hb; done))
  | .dic0, L, sc, fn, X, W, e', l, h, hb => by simp only [chkE] at h; first | (cases h; done) | (split at h <;> first | contradiction | (cases h; done) | (cases hb; done))
  | .rev _, L, sc, fn, X, W, e', l, h, hb => by simp only [chkE] at h; first | (cases h; done) | (split at h <;> first | contradiction | (cases h; done) | (cases hb; done))
  | .lst3 _ _ _ _, L, sc, fn, X, W, e', l, h, hb => by simp only [chkE] at h; first | (cases h; done) | (split at h <;> first | contradiction | (cases h; done) | (cases hb; done))
  | .hear _ _ _, L, sc, fn, X, W, e', l, h, hb => by simp only [chkE] at h; first | (cases h; done) | (split at h <;> first | contradiction | (cases h; done) | (cases hb; done))
  | .join _ _, L, sc, fn, X, W, e', l, h, hb => by simp only [chkE] at h; first | (cases h; done) | (split at h <;> first | contradiction | (cases h; done) | (cases hb; done))
theorem sEs : (es : Es) → ∀ {L : Nat} {sc : Scope} {fn : Str → Bool} {X : Cx} {W : WX} {es' : List Expr}, Lok Γ N cad L sc fn X W → chkEs Γ N sc fn es es' = true → PAU X cad W es' (wpEs Γ es)
  | .nil, L, sc, fn, X, W, es', l, h => by
    unfold chkEs at h
    split at h <;> try contradiction
    exact a_nil
  | .cons e es, L, sc, fn, X, W, es', l, h => by
    unfold chkEs at h
    split at h <;> try contradiction
    rename_i e1
    cases e1
    simp only [Bool.and_eq_true] at h
    exact a_cons (star_of (chk_okX h.1) _ _) (sE e l h.1) (sEs es l h.2)
  | .star e es, L, sc, fn, X, W, es', l, h => by
    unfold chkEs at h
    split at h <;> try contradiction
    rename_i e1
    cases e1
    simp only [Bool.and_eq_true] at h
    exact a_star (sE e l h.1) (sEs es l h.2)
theorem sKs : (es : Es) → ∀ {L : Nat} {sc : Scope} {fn : Str → Bool} {X : Cx} {W : WX} {es' : List Keyword}, Lok Γ N cad L sc fn X W → chkKs Γ N sc fn es es' = true → PKU X cad W es' (wpEs Γ es)
  | .nil, L, sc, fn, X, W, es', l, h => by
    unfold chkKs at h
    split at h <;> try contradiction
    exact k_nil
  | .cons e es, L, sc, fn, X, W, es', l, h => by
    unfold chkKs at h
    split at h <;> try contradiction
    rename_i e1
    cases e1
    simp only [Bool.and_eq_true] at h
    exact k_cons (sE e l h.1) (sKs es l h.2)
  | .star e es, L, sc, fn, X, W, es', l, h => by
    unfold chkKs at h
    cases h
theorem sO : (o : Op) → ∀ {L : Nat} {sc : Scope} {fn : Str → Bool} {X : Cx} {W : WX} {o' : Option Expr}, Lok Γ N cad L sc fn X W → chkO Γ N sc fn o o' = true → PO X o' (upo (gx X cad) W (wpO Γ o))
  | .no, L, sc, fn, X, W, o', l, h => by
    unfold chkO at h
    split at h <;> try contradiction
    exact o_none
  | .so e, L, sc, fn, X, W, o', l, h => by
    unfold chkO at h
    split at h <;> try contradiction
    rename_i e1
    cases e1
    exact o_some (sE e l h)
theorem sC : (o : Op) → ∀ {L : Nat} {sc : Scope} {fn : Str → Bool} {X : Cx} {W : WX} {o' : List Expr}, Lok Γ N cad L sc fn X W → chkC Γ N sc fn o o' = true → PTs X o' (upt (gx X cad) W (wpC Γ o))
  | .no, L, sc, fn, X, W, o', l, h => by
    unfold chkC at h
    split at h <;> try contradiction
    exact ts_nil
  | .so e, L, sc, fn, X, W, o', l, h => by
    unfold chkC at h
    split at h <;> try contradiction
    rename_i e1
    cases e1
    exact ts_one (sT e l h)
theorem sI : (i : I) → ∀ {L : Nat} {sc : Scope} {fn : Str → Bool} {X : Cx} {W : WX} {tg i' : Expr}, Lok Γ N cad L sc fn X W → chkI Γ N sc fn tg i i' = true → PIU X cad W tg i' (wpI Γ i)
  | .seq e, L, sc, fn, X, W, tg, i', l, h => by
    unfold chkI at h
    exact i_seq (sE e l h)
  | .rng1 a, L, sc, fn, X, W, tg, i', l, h => by
    unfold chkI at h
    split at h <;> try contradiction
    rename_i e1
    cases e1
    simp only [Bool.and_eq_true, beq_iff_eq] at h
    obtain ⟨⟨h1, h2⟩, h3⟩ := h
    subst h1
    exact i_rng1 (l.gl h2) (l.bi _ (by decide +kernel)) (sE a l h3) (star_of (chk_okX h3) _ _)
  | .rng2 a b, L, sc, fn, X, W, tg, i', l, h => by
    unfold chkI at h
    split at h <;> try contradiction
    rename_i e1
    cases e1
    simp only [Bool.and_eq_true, beq_iff_eq] at h
    obtain ⟨⟨⟨h1, h2⟩, h3⟩, h4⟩ := h
    subst h1
    exact i_rng2 (l.gl h2) (l.bi _ (by decide +kernel)) (sE a l h3) (sE b l h4) (by rw [star_of (chk_okX h3), star_of (chk_okX h4)]; rfl) (star_of (chk_okX h4) _ _)
  | .rng3 a b c, L, sc, fn, X, W, tg, i', l, h => by
    unfold chkI at h
    split at h <;> try contradiction
    rename_i e1
    cases e1
    simp only [Bool.and_eq_true, beq_iff_eq] at h
    obtain ⟨⟨⟨⟨h1, h2⟩, h3⟩, h4⟩, h5⟩ := h
    subst h1
    exact i_rng3 (l.gl h2) (l.bi _ (by decide +kernel)) (sE a l h3) (sE b l h4) (sE c l h5) (star_of (chk_okX h3) _ _) (star_of (chk_okX h4) _ _) (star_of (chk_okX h5) _ _)
  | .chr e, L, sc, fn, X, W, tg, i', l, h => by
    unfold chkI at h
    exact i_chr (sE e l h)
  | .enum a, L, sc, fn, X, W, tg, i', l, h => by
    unfold chkI at h
    split at h <;> try contradiction
    rename_i e1
    cases e1
    simp only [Bool.and_eq_true, beq_iff_eq] at h
    obtain ⟨⟨⟨h1, h2⟩, h3⟩, h4⟩ := h
    subst h1
    exact i_enum (by cases tg <;> first | exact ⟨_, _, _, rfl⟩ | cases h3) (l.gl h2) (l.bi _ (by decide +kernel)) (sE a l h4) (star_of (chk_okX h4) _ _)
  | .zip a b, L, sc, fn, X, W, tg, i', l, h => by
    unfold chkI at h
    split at h <;> try contradiction
    rename_i e1
    cases e1
    simp only [Bool.and_eq_true, beq_iff_eq] at h
    obtain ⟨⟨⟨⟨h1, h2⟩, h3⟩, h4⟩, h5⟩ := h
    subst h1
    exact i_zip (by cases tg <;> first | exact ⟨_, _, _, rfl⟩ | cases h3) (l.gl h2) (l.bi _ (by decide +kernel)) (sE a l h4) (sE b l h5) (star_of (chk_okX h4) _ _) (star_of (chk_okX h5) _ _)
end
end
end AA
/-! AA11: soundness of statements; a def by its body. -/
namespace AA
open PySem PySem.Spec L2
open PyProof.Rows hiding St
structure LokS (Γ : Tab) (N : List Str) (cad : Cad) (L : Nat) (sc : Scope) (fn : Str → Bool) (X : Cx) (W : WX) : Prop where
  l : Lok Γ N cad L sc fn X W
  stk : X.stack = X.env :: X.outer
  frm : X.env.frame = some X.env.locals
  exn : X.ex = []
  pas : PassesOwn (model X.prog X.w) X.A X.env X.xe
  make : ∀ (c : Nat) x, Γ.cls[c]? = some x → ∀ (pn : List (Addr × Obj)) (xe : Value → Shared → Prop), MkOk (X.tr pn xe) (cad c) x
section
variable {Γ : Tab} {N : List Str} {cad : Cad} {L : Nat}
theorem LokS.tr {sc : Scope} {fn : Str → Bool} {X : Cx} {W W' : WX} (k : LokS Γ N cad L sc fn X W) {pn : List (Addr × Obj)} {xe : Value → Shared → Prop} (tk : Takes (X.tr pn xe) W') (ps : PassesOwn (model X.prog X.w) X.A X.env xe) : LokS Γ N cad L sc fn (X.tr pn xe) W' :=
  ⟨⟨k.l.hN, k.l.hsc, k.l.hfn, k.l.nd, k.l.calm, k.l.kind, tk, k.l.fns, k.l.room, k.l.cst, k.l.bi, k.l.rp, k.l.gd, k.l.exc, k.l.cls, k.l.ve, fun h h2 => let t := k.l.tb h h2; ⟨t.tab, t.fns, t.hrd⟩, k.l.ats, k.l.ins⟩, k.stk, k.frm, k.exn, ps, fun c x e pn' xe' => k.make c x e pn' xe'⟩
theorem swSole_tup {es : List Expr} {k : Nat} {p : Pos} {v : Expr} {l : Nat} {env : Env} (hk : env.scope.kind = .function) (h : swOk env.scope (.Tuple es k p) v = true) : swapsWithSole [.Tuple es k p] v l env = pure false := swOk_ok hk h
theorem assignOne {sc : Scope} {fn : Str → Bool} {t : T} {tg : Expr} {env : Env} (h : chkT N sc fn t tg = true) : (assignEach [tg] env).map (·.2) = [assign tg env] := by
  rw [each_of h]; rfl
theorem sub_assign {o i : Expr} {p : Pos} {env : Env} (h : okX i = true) (v : Value) : assign (.Subscript o i p) env v = (do
      let ov ← holding [v] (eval o env)
      let iv ← holding [v, ov] (eval i env)
      standAt p
      holding [v, ov, iv] (setItem ov iv v)
      release [v, ov, iv] []) := by
  cases i <;> first
    | rfl
    | cases h
theorem swOk_sub {sc : Scope} {o i e : Expr} {p q : Pos} (h : swOk sc (.Subscript o i p) e = true) : swOk sc (.Subscript o i q) e = true := by
  cases e <;> first
    | rfl
    | exact h
theorem notC_sw {e : Expr} {env : Env} {l : Nat} (h : notC e = true) : swapsWith e none l env = pure false := by
  unfold swapsWith
  cases e <;> first
    | rfl
    | cases h
theorem notC_swA {e : Expr} {t : Option Expr} {env : Env} {l : Nat} (h : notC e = true) : swapsWith e t l env = pure false := by
  unfold swapsWith
  cases e <;> first
    | rfl
    | cases h
theorem attr_sw {e o : Expr} {x : Str} {p : Pos} {env : Env} {l : Nat} : swapsWith e (some (.Attribute o x p)) l env = pure false := by
  unfold swapsWith
  cases e <;> rfl
theorem notC_swS {e : Expr} {t : Expr} {env : Env} {l : Nat} (h : notC e = true) : swapsWithSole [t] e l env = pure false := notC_swA h
theorem notTup_sw {e : Expr} {es : List Expr} {k : Nat} {p : Pos} {env : Env} (h : notTup e = true) : swappedStores [.Tuple es k p] e env = pure none := by
  unfold swappedStores
  cases e <;> first
    | rfl
    | (simp [notTup] at h; done)
mutual
theorem sS : (s : S) → ∀ {sc : Scope} {fn : Str → Bool} {X : Cx} {W : WX} {s' : Stmt}, LokS Γ N cad L sc fn X W → chkS Γ N sc fn s s' = true → PSU X cad W s' (wpS Γ s)
  | .ex e, sc, fn, X, W, s', k, h => by
    unfold chkS at h
    split at h <;> try contradiction
    rename_i e1
    cases e1
    simp only [Bool.and_eq_true] at h
    exact s_ex (notC_sw h.1) (sE e k.l h.2)
  | .asg t e, sc, fn, X, W, s', k, h => by
    unfold chkS at h
    split at h <;> try contradiction
    rename_i e1
    cases e1
    simp only [Bool.and_eq_true] at h
    obtain ⟨⟨⟨h1, h2⟩, h3⟩, h4⟩ := h
    have hk : X.env.scope.kind = .function := by rw [k.l.hsc]; exact k.l.kind
    exact s_asg (sE e k.l h4) (sG t k.l h1) (swOk_ok hk (by rw [k.l.hsc]; exact h2)) (swapNone_ok hk (by rw [k.l.hsc]; exact h3)) (assignOne h1)
  | .asgl ts e, sc, fn, X, W, s', k, h => by
    unfold chkS at h
    split at h <;> try contradiction
    rename_i e1
    cases e1
    simp only [Bool.and_eq_true] at h
    obtain ⟨⟨⟨h1, h2⟩, h3⟩, h4⟩ := h
    have hk : X.env.scope.kind = .function := by rw [k.l.hsc]; exact k.l.kind
    exact s_asgl k.l.calm (sE e k.l h4) (sGs ts k.l h1) (chkTs_len h1).1 (chkTs_len h1).2 (fun ds δ δ' e => bindTs_len ts ds δ δ' e) (swOk_ok hk (by rw [k.l.hsc]; exact h2)) (swapNone_ok hk (by rw [k.l.hsc]; exact h3))
  | .asgc i e, sc, fn, X, W, s', k, h => by
    unfold chkS at h
    split at h <;> try contradiction
    rename_i e1
    cases e1
    simp only [Bool.and_eq_true] at h
    obtain ⟨⟨⟨h1, h2⟩, h3⟩, h4⟩ := h
    have hk : X.env.scope.kind = .function := by rw [k.l.hsc]; exact k.l.kind
    cases e with
    | comp m own t it c e =>
      simp only [chkE] at h4
      split at h4 <;> try contradiction
      rename_i e3
      cases e3
      simp only [Bool.and_eq_true, beq_iff_eq] at h4
      obtain ⟨⟨⟨⟨⟨⟨g1, g2⟩, g3⟩, g4⟩, g5⟩, g6⟩, g7⟩ := h4
      have ok := blkOk_by g1
      obtain ⟨b1, b2, b3⟩ := k.l.bnd h3
      have h2c := h2
      simp only [swC, Bool.and_eq_true] at h2c
      have loc := k.l.loc h2c.1.1
      refine s_asgc k.l.calm (by rw [k.l.hN]; exact k.l.nd) b1 loc (swC_ok hk (by rw [k.l.hsc]; exact h2)) (sI it k.l g4) (by rw [k.l.hN, k.l.hsc]; exact ok) (fun i hi => ?_) (fun s H C cl fp => sG t (k.l.blk g3 s H C cl fp) g5) (fun s H C cl fp => sC c (k.l.blk g3 s H C cl fp) g6)
        (fun s H C cl fp => sE e (k.l.blk g3 s H C cl fp) g7) (fun x => chkI_okX g4 x)
      have := List.all_eq_true.mp g2 i hi
      simpa using this
    | _ => cases h1
  | .par i j a b, sc, fn, X, W, s', k, h => by
    unfold chkS at h
    split at h <;> try contradiction
    rename_i e1
    cases e1
    simp only [Bool.and_eq_true, beq_iff_eq, Bool.not_eq_true'] at h
    obtain ⟨⟨⟨⟨⟨⟨⟨⟨⟨h1, h2⟩, h3⟩, h4⟩, h5⟩, h6⟩, h7⟩, h8⟩, h9⟩, h10⟩ := h
    have hk : X.env.scope.kind = .function := by rw [k.l.hsc]; exact k.l.kind
    have s2 := star_of (chk_okX h10) [] X.env
    exact s_par k.l.calm (by rw [k.l.hN]; exact k.l.nd) (k.l.bnd h1).1 (k.l.bnd h2).1 (by simpa using h5) (k.l.loc h3) (k.l.loc h4) (a_cons (star_of (chk_okX h9) _ _) (sE a k.l h9) (a_cons s2 (sE b k.l h10) a_nil)) (swapB_ok hk (by rw [k.l.hsc]; exact h6)) (swSole_tup hk rfl)
  | .par3 i j m a b c, sc, fn, X, W, s', k, h => by
    unfold chkS at h
    split at h <;> try contradiction
    rename_i e1
    cases e1
    simp only [Bool.and_eq_true, beq_iff_eq, Bool.not_eq_true'] at h
    obtain ⟨⟨⟨⟨⟨⟨⟨⟨⟨⟨⟨⟨⟨⟨⟨h1, h2⟩, h3⟩, h4⟩, h5⟩, h6⟩, h7⟩, h8⟩, h9⟩, h10⟩, h11⟩, h12⟩, h13⟩, h14⟩, h15⟩, h16⟩ := h
    have hk : X.env.scope.kind = .function := by rw [k.l.hsc]; exact k.l.kind
    exact s_par3 k.l.calm (by rw [k.l.hN]; exact k.l.nd) (k.l.bnd h1).1 (k.l.bnd h2).1 (k.l.bnd h3).1 (by simpa using h7) (by simpa using h8) (by simpa using h9) (k.l.loc h4) (k.l.loc h5) (k.l.loc h6)
      (a_cons (star_of (chk_okX h14) _ _) (sE a k.l h14) (a_cons (star_of (chk_okX h15) _ _) (sE b k.l h15) (a_cons (star_of (chk_okX h16) _ _) (sE c k.l h16) a_nil))) (swapB_ok hk (by rw [k.l.hsc]; exact h10)) (swSole_tup hk rfl)
  | .seti o i e, sc, fn, X, W, s', k, h => by
    unfold chkS at h
    split at h <;> try contradiction
    rename_i e1
    cases e1
    simp only [Bool.and_eq_true] at h
    obtain ⟨⟨⟨⟨h1, h2⟩, h3⟩, h4⟩, h5⟩ := h
    have hk : X.env.scope.kind = .function := by rw [k.l.hsc]; exact k.l.kind
    exact s_seti k.l.units (sE o k.l h3) (sE i k.l h4) (sE e k.l h5) (swOk_ok hk (by rw [k.l.hsc]; exact swOk_sub h1)) (swapNone_ok hk rfl) rfl fun v => sub_assign h2 v
  | .sattr o x e, sc, fn, X, W, s', k, h => by
    unfold chkS at h
    split at h <;> try contradiction
    rename_i e1
    cases e1
    simp only [Bool.and_eq_true, beq_iff_eq] at h
    obtain ⟨⟨⟨⟨h1, h2⟩, h3⟩, h4⟩, h5⟩ := h
    subst h1
    exact s_sattr k.l.ats (sE o k.l h4) (sE e k.l h5) attr_sw
  | .sattrs i xs e, sc, fn, X, W, s', k, h => by
    unfold chkS at h
    split at h <;> try contradiction
    rename_i e1
    cases e1
    simp only [Bool.and_eq_true, Bool.not_eq_true'] at h
    obtain ⟨⟨⟨⟨h1, h2⟩, h3⟩, h4⟩, h5⟩ := h
    unfold selfB at h1
    split at h1 <;> try contradiction
    rename_i x0 hx0
    simp only [Bool.and_eq_true, Bool.not_eq_true'] at h1
    obtain ⟨⟨⟨g1, g2⟩, g3⟩, g4⟩ := h1
    exact s_sattrs k.l.ats k.l.calm (by rw [k.l.hN]; exact hx0) (k.l.vis g1) g2 g3 (by intro z; rw [z] at h2; cases h2) g4 (sE e k.l h5) (notC_swS h3) (notTup_sw h4)
  | .ret e, sc, fn, X, W, s', k, h => by
    unfold chkS at h
    split at h <;> try contradiction
    rename_i e1
    cases e1
    exact s_ret (sE e k.l h)
  | .retn, sc, fn, X, W, s', k, h => by
    unfold chkS at h
    split at h <;> try contradiction
    exact s_retn
  | .if_ c a b, sc, fn, X, W, s', k, h => by
    unfold chkS at h
    split at h <;> try contradiction
    rename_i e1
    cases e1
    simp only [Bool.and_eq_true] at h
    exact s_if (sT c k.l h.1.1) (sSs a k h.1.2) (sSs b k h.2)
  | .for_ t it b, sc, fn, X, W, s', k, h => by
    unfold chkS at h
    split at h <;> try contradiction
    rename_i e1
    cases e1
    simp only [Bool.and_eq_true] at h
    exact s_for k.pas k.l.calm (sI it k.l h.1.2) (sG t k.l h.1.1) (sSs b k h.2) fun x => chkI_okX h.1.2 x
  | .while_ c b, sc, fn, X, W, s', k, h => by
    unfold chkS at h
    split at h <;> try contradiction
    rename_i e1
    cases e1
    simp only [Bool.and_eq_true] at h
    exact s_while k.pas (sT c k.l h.1) (sSs b k h.2)
  | .rs c e, sc, fn, X, W, s', k, h => by
    unfold chkS at h
    split at h <;> try contradiction
    rename_i e1
    cases e1
    simp only [Bool.and_eq_true] at h
    obtain ⟨⟨h1, h2⟩, h3⟩ := h
    split at h1 <;> try contradiction
    rename_i y hy
    simp only [beq_iff_eq] at h1
    subst h1
    exact s_rs k.l.calm k.l.tk (k.make c _ hy X.pn X.xe) (k.l.gl h2) (sE e k.l h3) (star_of (chk_okX h3) _ _)
  | .try_ c i b j, sc, fn, X, W, s', k, h => by
    unfold chkS at h
    split at h <;> try contradiction
    rename_i e1
    cases e1
    simp only [Bool.and_eq_true, beq_iff_eq, Bool.not_eq_true'] at h
    obtain ⟨⟨⟨⟨⟨⟨⟨⟨⟨h1, h2⟩, h3⟩, h4⟩, h5⟩, h6⟩, h7⟩, h8⟩, h9⟩, h10⟩ := h
    subst h6
    split at h1 <;> try contradiction
    rename_i y hy
    simp only [beq_iff_eq] at h1
    subst h1
    obtain ⟨b1, b2, b3⟩ := k.l.bnd h5
    exact s_try k.stk k.frm k.exn (by rw [k.l.hN]; exact k.l.nd) (k.l.bnd h3).1 (k.l.loc h4) (by simpa using h7) b1 b2 b3 h8 h9 (k.l.gl h2) (k.l.cls c _ hy) k.l.tk (fun W' pn xe tk ps => sSs b (k.tr tk ps) h10) rfl rfl
  | .pass, sc, fn, X, W, s', k, h => by
    unfold chkS at h
    split at h <;> try contradiction
    · rename_i e1
      exact s_doc
    · exact s_pass
  | .brk, sc, fn, X, W, s', k, h => by
    unfold chkS at h
    split at h <;> try contradiction
    exact s_brk
  | .cont, sc, fn, X, W, s', k, h => by
    unfold chkS at h
    split at h <;> try contradiction
    exact s_cont
theorem sSs : (ss : Ss) → ∀ {sc : Scope} {fn : Str → Bool} {X : Cx} {W : WX} {ss' : List Stmt}, LokS Γ N cad L sc fn X W → chkSs Γ N sc fn ss ss' = true → PSsU X cad W ss' (wpSs Γ ss)
  | .nil, sc, fn, X, W, ss', k, h => by
    unfold chkSs at h
    split at h <;> try contradiction
    exact ss_nil
  | .cons s ss, sc, fn, X, W, ss', k, h => by
    unfold chkSs at h
    split at h <;> try contradiction
    rename_i e1
    cases e1
    simp only [Bool.and_eq_true] at h
    exact ss_cons (sS s k h.1) (sSs ss k h.2)
end
end
end AA
/-! AA12: a module's facts; a def by its check and its wish; the law's head. -/
namespace AA
open PySem PySem.Spec L2
open PyProof.Rows hiding St

/-- what a module's defs lean on, at level L -/
structure Mo (Γ : Tab) (P : Program) (w : World) (K : PySem.W.Frag) (cad : Cad) (mg : Str → Option Value) (base : Heap) (L : Nat) : Prop where
  fns : ∀ (k : Nat) f, Γ.fn[k]? = some f → FnI P w K cad mg base L f
  cst : ∀ (k : Nat) c, Γ.cst[k]? = some c → (c.1 == ("__debug__" : Str)) = false ∧ ∃ v u, mg c.1 = some u ∧ RelV v u ∧ ∀ ρ H α, RD ⟨K, cad⟩ ρ H α c.2 v
  bi : ∀ n ∈ biNames, mg n = none
  rp : Γ.rp = PyData.shown
  exc : ∀ c, c < Γ.cls.length → ExcK K (cad c)
  cls : ∀ c x, Γ.cls[c]? = some x → ClsK K mg cad Γ.cls.length Γ.sub c x
  ve : ∀ c, c < Γ.cls.length → PySem.W.kitOne K (.ref (cad c)) (.type "ValueError") = some true
  ats : AtsOk K cad Γ.ats
  ins : ∀ p ∈ Γ.ins, InsC K mg cad p.1 p.2
  make : ∀ (c : Nat) x, Γ.cls[c]? = some x → ∀ X : Cx, X.prog = P → X.w = w → X.K = K → X.mg = mg → X.base = base → Room L X.A → MkOk X (cad c) x
/-- the slots at a def's entry -/
def dstart (N : List Str) (ds : List D) : Dst := ds.map some ++ List.replicate (N.length - ds.length) none
theorem rs_start {G : Gm} {ρ α : List Addr} {H : Hp} {N : List Str} {ds : List D} {vs : List V} (r : RDs G ρ H α ds vs) : RS G ρ H α (dstart N ds) (L2.start N vs) := by
  have hl := r.length
  refine ⟨by simp [dstart, L2.start, hl], fun i d e => ?_⟩
  unfold dstart at e
  unfold L2.start
  by_cases hi : i < ds.length
  · rw [List.getElem?_append_left (by simpa using hi), List.getElem?_map] at e
    cases q : ds[i]? with
    | none => rw [q] at e; cases e
    | some d' =>
      rw [q] at e; cases e
      obtain ⟨v, h1, h2⟩ := r.get q
      exact ⟨v, by rw [List.getElem?_append_left (by simpa [hl] using hi), List.getElem?_map, h1]; rfl, h2⟩
  · rw [List.getElem?_append_right (by simpa using hi), List.getElem?_replicate] at e
    split at e <;> cases e
/-- the ends of a def -/
abbrev dEnds (Q : DK) (X : XD) : DE := { nx := fun _ M' => Q .non M', rt := Q, xc := fun c d _ M' => X c d M' }
/-- a def that makes lambdas -/
structure DefTb (Γ : Tab) (P : Program) (w : World) (K : PySem.W.Frag) (cad : Cad) (mg : Str → Option Value) (base : Heap) (L : Nat) (fd : FuncData) (qual : Str) : Prop where
  tab : ∃ c Pt, fd.code = .ref c ∧ LamX.TabB base mg c Pt ∧ (Pt, qual ++ ".<locals>." ++ "<lambda>") ∈ cad.tabs ∧ ∀ p ∈ cad.tabs, p.1 = Pt → p.2 = qual ++ ".<locals>." ++ "<lambda>"
  fns : ∃ L2, L2 + 2 ≤ L ∧ ∀ (k : Nat) f, Γ.fn[k]? = some f → FnI P w K cad mg base L2 f
  hrd : ∃ g st fd, HeardTxt K mg g st fd
theorem def_ok {Γ : Tab} {P : Program} {w : World} {K : PySem.W.Frag} {cad : Cad} {mg : Str → Option Value} {base : Heap} {L : Nat} {f : Fn} {nm qual : Str} {st : Stmt} {fa : Addr} {fd : FuncData} {N : List Str} {body : Ss}
    (m : Mo Γ P w K cad mg base L) (Fu : Fun K nm qual st fa fd) (S : FnScope N f.par (defScope st)) (chk : chkSs Γ N (defScope st) (fun _ => true) body (defBody st) = true)
    (hsp : ∀ ds M Q X, ds.length = f.par.length → f.sp ds M Q X → wpSs Γ body (dEnds Q X) (dstart N ds) M) (htb : Γ.lams.contains N = true → DefTb Γ P w K cad mg base L fd qual) : FnG P w K mg base (L + 1) fa fd f.par (lsp ⟨K, cad⟩ f) := by
  refine fnG_of Fu S (fun vs H Q E h => lsp_len h) fun cdv A callers s H vs Q E ecd gd hr h => ?_
  have lok : Lok Γ N cad L (defScope st) (fun _ => true) (cxOf (L2.CX P w) P w K mg base N qual (defScope st) fa cdv A callers s H E) (fun cls d _ H => E cls d H) :=
    ⟨rfl, rfl, fun _ _ => rfl, S.nd, rfl, S.kind, takes_of rfl rfl rfl rfl, m.fns, hr, m.cst, m.bi, m.rp, gd, m.exc, m.cls, m.ve, fun h1 _ => by
      have t := htb h1
      obtain ⟨c, Pt, e1, e2, e3, e4⟩ := t.tab
      exact ⟨⟨c, Pt, e2, ecd.symm.trans e1, e3, e4⟩, t.fns, t.hrd⟩, m.ats, m.ins⟩
  have k : LokS Γ N cad L (defScope st) (fun _ => true) (cxOf (L2.CX P w) P w K mg base N qual (defScope st) fa cdv A callers s H E) (fun cls d _ H => E cls d H) :=
    ⟨lok, rfl, rfl, rfl, passes_of rfl, fun c x e pn xe => m.make c x e _ rfl rfl rfl rfl rfl hr⟩
  obtain ⟨ds, ρ, α, M, Q', X', r, rm, hl, sp, hq, hx⟩ := h
  refine ⟨_, sSs body k chk, ρ, dstart N ds, α, M, dEnds Q' X', rs_start r, rm, hsp ds M Q' X' hl sp, ⟨fun δ M1 q σ' H' α' n1 r1 m1 => hq _ _ q _ _ _ n1 rfl m1, fun d M1 q => hq d M1 q, fun _ _ z => z.elim, fun _ _ z => z.elim, fun c d δ M1 q dx dv σ' H' α' n1 a b e r1 _ m1 => hx c d M1 q dx dv H' α' n1 a b e r1 m1⟩⟩

/-! ### the law's head -/
/-- nothing is tracked at the start but the script and the tables of code objects -/
def OnlyT (cs : List (Addr × Addr)) (H : Hp) : Prop := ∀ p ∈ cs, H p.2 = some (.tbl #[])
theorem lawGT {P : Program} {w : World} {K : PySem.W.Frag} {mg mb : Str → Option Value} {k : Nat} {fa a : Addr} {cs : List (Addr × Addr)} {fd : FuncData} {x : Str} {sp : Sp} {s1 : Shared} {us : List Value} {ns : List Int}
    (KX : K.In s1.heap) (gl : s1.heap.Ns mainGlobals mg) (bl : s1.heap.Ns builtinsNs mb) (bb : ∀ x : Str, x ≠ "__name__" → mb x = bootBuiltins x) (lim : s1.heap.NoLimit) (gens : s1.gens = #[])
    (tabs : ∀ p ∈ cs, PySem.W.CodeHd s1.heap p.1 p.2 ∧ s1.heap.get? p.2 = some (PySem.W.tabObj #[]) ∧ K.lookup p.2 = none)
    (mainB : cs ≠ [] → ∃ (m : Addr) (o : Obj), mg "__builtins__" = some (.ref m) ∧ m ≠ builtinsNs ∧ s1.heap.get? m = some o ∧ o.cls = .type "module" ∧ o.dict = some builtinsNs ∧ o.data = .plain)
    (there : s1.heap.get? a = some { cls := .type "list", data := .seq us.toArray }) (arei : IntsAre us ns) (short : ns.length ≤ sizeLine) (hr : Room k callerA)
    (F : ∀ base : Heap, K.In base → base.Ns mainGlobals mg → (∀ p ∈ cs, LamX.TabB base mg p.1 p.2) → FnG P w K mg base k fa fd [x] sp) (hb : ∀ (s : Shared) (u : Value), BindsTo s fd ⟨[u], []⟩ [(x, u)])
    (hsp : ∀ H : Hp, OnlyT cs H → SqL K H a (ns.map V.int) → sp [.ref a] H (fun v _ => v = .bl true) fun _ _ _ => False)
    (noX : ∀ H e s', L2.CX P w [] H s1 (fun _ _ _ => False) e s' → False) :
    codeAny (model P w) callerA (.call (.ref fa) ⟨[.ref a], []⟩) (fun r s' => r = .ok (.ret (.bool true)) ∧ OldK s1.heap s'.heap ∧ s'.os = s1.os ∧ AllBare s'.gens) s1 := by
  have rv : Vals (ns.map V.int) us := vals_ints arei
  have lu : us.length = ns.length := by rw [← rv.length, List.length_map]
  have none_in : ∀ b : Addr, b ∉ ([] : List Addr) := fun b z => nomatch z
  have tabAt : ∀ b, b ∈ cs.map (·.2) → s1.heap.get? b = some (PySem.W.tabObj #[]) := fun b z => by
    obtain ⟨p, hp, rfl⟩ := List.mem_map.mp z
    exact (tabs p hp).2.1
  have inT : ∀ p ∈ cs, p.2 ∈ cs.map (·.2) := fun p hp => List.mem_map.mpr ⟨p, hp, rfl⟩
  have notA : a ∉ cs.map (·.2) := fun z => by
    have q := (tabAt a z).symm.trans there
    have q2 : (Data.fields #[] : Data) = .seq us.toArray := congrArg Obj.data (Option.some.inj q)
    cases q2
  have main : ∀ H : Hp, OnlyT cs H → (∀ b, H b = none ∨ b ∈ cs.map (·.2) ∨ ∃ ob xs, H b = some (.frz ob (.lst xs))) → SqL K H a (ns.map V.int) → HOk P w H s1.heap → (∀ b, H b ≠ none → b = a ∧ K.lookup a = none ∨ b ∈ cs.map (·.2)) →
      codeAny (model P w) callerA (.call (.ref fa) ⟨[.ref a], []⟩) (fun r s' => r = .ok (.ret (.bool true)) ∧ OldK s1.heap s'.heap ∧ s'.os = s1.os ∧ AllBare s'.gens) s1 := by
    intro H onT only sq hok tracked
    have un : ∀ b o, s1.heap.get? b = some o → (b = a → False) → (b ∈ cs.map (·.2) → False) → H b = none := fun b o e z1 z2 => by
      cases q : H b with
      | none => rfl
      | some u =>
        rcases tracked b (by rw [q]; exact fun z => nomatch z) with ⟨eb, _⟩ | eb
        · exact (z1 eb).elim
        · exact (z2 eb).elim
    have un2 : ∀ b o, s1.heap.get? b = some o → (∀ it n, o.data ≠ .seq it n) → o.data ≠ .fields #[] → H b = none := fun b o e d1 d2 => un b o e
      (fun z => by rw [z, there] at e; cases e; exact d1 _ _ rfl) (fun z => by rw [tabAt b z] at e; cases e; exact d2 rfl)
    have ns' : ∀ (b : Addr) (m : Str → Option Value), s1.heap.Ns b m → (hidT s1.heap H).Ns b m := fun b m ⟨o, es, ep, e, d, r⟩ => ⟨o, es, ep, hidT_get e (un2 b o e (fun it n z => by rw [d] at z; cases z) (fun z => by rw [d] at z; cases z)), d, r⟩
    have kin : K.In (hidT s1.heap H) := fun b o e => hidT_get (KX b o e) (by
      cases q : H b with
      | none => rfl
      | some u =>
        rcases tracked b (by rw [q]; exact fun z => nomatch z) with ⟨eb, kn⟩ | eb
        · rw [eb, kn] at e; cases e
        · obtain ⟨p, hp, ep⟩ := List.mem_map.mp eb
          have ep : p.2 = b := ep
          rw [← ep, (tabs p hp).2.2] at e; cases e)
    obtain ⟨mc, c1, c2⟩ := lim
    have md : Mod K mg (hidT s1.heap H) := ⟨kin, ns' _ _ gl, ⟨mb, ns' _ _ bl, bb⟩, ⟨mc, ns' _ _ c1, c2⟩⟩
    have env0 : Env0 P w K mg (hidT s1.heap H) callerA [] s1 H := ⟨rfl, md, fun b o e => of_hidT e, Nat.le_of_eq (hidT_size _ _), trivial, fun b z => absurd z (none_in b), hok, .of_eq gens⟩
    have TB : ∀ p ∈ cs, LamX.TabB (hidT s1.heap H) mg p.1 p.2 := fun p hp => by
      obtain ⟨hc, ht, _⟩ := tabs p hp
      have noG : mainGlobals ≠ p.2 := fun z => by
        obtain ⟨o, es, ep, e, d, _⟩ := gl
        rw [z, ht] at e; cases e
        cases d
      obtain ⟨o, ws, file, tf, flags, tg, inF, text, tt, e1, r1, r2, r3, rest⟩ := hc
      obtain ⟨m, om, b1, b2, b3, b4, b5, b6⟩ := mainB (fun z => by rw [z] at hp; cases hp)
      refine ⟨⟨o, ws, file, tf, flags, tg, inF, text, tt, hidT_get e1 (un2 _ _ e1 (fun it n z => by rw [r2] at z; cases z) (fun z => by rw [r2] at z; cases z; simp at r3)), r1, r2, r3, rest⟩, ?_, noG⟩
      refine ⟨m, om, b1, b2, fun z => ?_, fun z => ?_, hidT_get b3 (un2 _ _ b3 (fun it n z => by rw [b6] at z; cases z) (fun z => by rw [b6] at z; cases z)), b4, b5, b6⟩
      · obtain ⟨o2, es, ep, e, d, _⟩ := gl
        rw [z, e] at b3; cases b3
        rw [d] at b6; cases b6
      · rw [z, ht] at b3; cases b3
        cases b6
    refine codeAny_mono ((F _ kin (ns' _ _ gl) TB).run callerA [] s1 H ⟨[.ref a], []⟩ [.ref a] [.ref a] _ _ rfl hr env0 (hb s1 (.ref a)) (.cons rfl .nil) (hsp H onT sq)) fun r s2 h => ?_
    cases r with
    | error e => exact (noX H e s2 h).elim
    | ok fl =>
      cases fl with
      | next => exact h.elim
      | brk => exact h.elim
      | cont => exact h.elim
      | ret u =>
        obtain ⟨v, H2, os2, bare2, unk, hok2, r2, q2⟩ := h
        have q3 : v = .bl true := q2
        subst q3
        obtain rfl : u = Value.bool true := r2
        have keep1 : ∀ b o, b ∉ cs.map (·.2) → s1.heap.get? b = some o → s2.heap.get? b = some o := fun b o nb e => by
          rcases only b with z | z | ⟨ob, xs, z⟩
          · exact unk.keep b o e z (none_in b) (none_in b)
          · exact absurd z nb
          · obtain ⟨g1, _⟩ := hok b _ z
            obtain ⟨g2, _⟩ := hok2 b _ (unk.frzs b ob _ z)
            rw [e] at g1; cases g1
            exact g2
        have keep2 : ∀ p ∈ cs, ∃ more : Array Value, s2.heap.get? p.2 = some (PySem.W.tabObj more) := fun p hp => by
          obtain ⟨more, z⟩ := unk.tbls p.2 #[] (onT p hp)
          exact ⟨_, hok2 _ _ z⟩
        refine ⟨rfl, ⟨fun b o e => ?_, fun b o e => ?_⟩, os2, bare2⟩
        · by_cases hbt : b ∈ cs.map (·.2)
          · obtain ⟨p, hp, ep⟩ := List.mem_map.mp hbt
            have ep : p.2 = b := ep
            subst ep
            obtain ⟨more, z⟩ := keep2 p hp
            rw [tabAt _ hbt] at e; cases e
            refine .inr (.inl ⟨((tabs p hp).1.tab (tabs p hp).2.1).isCodeTable, rfl, #[], more, rfl, ?_⟩)
            rw [Array.empty_append]; exact z
          · exact .inl (keep1 b o hbt e)
        · by_cases hbt : b ∈ cs.map (·.2)
          · obtain ⟨p, hp, ep⟩ := List.mem_map.mp hbt
            have ep : p.2 = b := ep
            obtain ⟨more, z⟩ := keep2 p hp
            exact ⟨_, by rw [← ep]; exact z⟩
          · exact ⟨o, keep1 b o hbt e⟩
  cases hk : K.lookup a with
  | none =>
    have atA : ∀ b u, (if b = a then some (HO.frz { cls := .type "list", data := .seq us.toArray } (.lst (ns.map V.int))) else if b ∈ cs.map (·.2) then some (HO.tbl #[]) else none) = some u →
        b = a ∧ u = HO.frz { cls := .type "list", data := .seq us.toArray } (.lst (ns.map V.int)) ∨ b ∈ cs.map (·.2) ∧ u = .tbl #[] := fun b u e => by
      by_cases hba : b = a
      · rw [if_pos hba] at e; cases e; exact .inl ⟨hba, rfl⟩
      · rw [if_neg hba] at e
        by_cases hbt : b ∈ cs.map (·.2)
        · rw [if_pos hbt] at e; cases e; exact .inr ⟨hbt, rfl⟩
        · rw [if_neg hbt] at e; cases e
    refine main (fun b => if b = a then some (.frz { cls := .type "list", data := .seq us.toArray } (.lst (ns.map V.int))) else if b ∈ cs.map (·.2) then some (.tbl #[]) else none) (fun p hp => ?_) (fun b => ?_) (.inl (.inr ⟨{ cls := .type "list", data := .seq us.toArray }, if_pos rfl⟩)) (fun b u e => ?_) fun b hn => ?_
    · show (if p.2 = a then _ else if p.2 ∈ cs.map (·.2) then some (HO.tbl #[]) else none) = _
      rw [if_neg (fun z => notA (by rw [← z]; exact inT p hp)), if_pos (inT p hp)]
    · by_cases hba : b = a
      · exact .inr (.inr ⟨_, _, if_pos hba⟩)
      · by_cases hbt : b ∈ cs.map (·.2)
        · exact .inr (.inl hbt)
        · exact .inl (by show (if b = a then _ else _) = _; rw [if_neg hba, if_neg hbt])
    · rcases atA b u e with ⟨rfl, rfl⟩ | ⟨hbt, rfl⟩
      · exact ⟨there, by rw [List.length_map]; exact short, us, _, rv, there⟩
      · exact tabAt b hbt
    · by_cases hba : b = a
      · exact .inl ⟨hba, hk⟩
      · by_cases hbt : b ∈ cs.map (·.2)
        · exact .inr hbt
        · exact absurd (by show (if b = a then _ else _) = _; rw [if_neg hba, if_neg hbt]) hn
  | some o =>
    have e := KX a o hk
    rw [there] at e
    cases e
    refine main (fun b => if b ∈ cs.map (·.2) then some (.tbl #[]) else none) (fun p hp => if_pos (inT p hp)) (fun b => ?_) (.inr ⟨_, us.toArray, _, hk, rfl, rfl, rfl, by rw [List.size_toArray, lu]; exact short, by simpa using rv⟩) (fun b u z => ?_) fun b hn => ?_
    · by_cases hbt : b ∈ cs.map (·.2)
      · exact .inr (.inl hbt)
      · exact .inl (if_neg hbt)
    · by_cases hbt : b ∈ cs.map (·.2)
      · have z : (if b ∈ cs.map (·.2) then some (HO.tbl #[]) else none) = some u := z
        rw [if_pos hbt] at z; cases z
        exact tabAt b hbt
      · have z : (if b ∈ cs.map (·.2) then some (HO.tbl #[]) else none) = some u := z
        rw [if_neg hbt] at z; cases z
    · by_cases hbt : b ∈ cs.map (·.2)
      · exact .inr hbt
      · exact absurd (if_neg hbt) hn
/-- the script, as a datum -/
theorem lsp_script {K : PySem.W.Frag} {cad : Cad} {f : Fn} {H : Hp} {a : Addr} {ns : List Int} (hp : f.par.length = 1) (ht : LamX.Tabs cad.tabs H) (hs : SqL K H a (ns.map V.int)) (h : f.sp [.lst (ns.map D.int)] [] (fun d _ => d = .bl true) (fun _ _ _ => False)) :
    lsp ⟨K, cad⟩ f [.ref a] H (fun v _ => v = .bl true) fun _ _ _ => False := by
  have at_ : LstAt K [] H [] a (ns.map V.int) := by
    rcases hs with hs | hs
    · exact .inl ⟨List.not_mem_nil, List.not_mem_nil, hs⟩
    · exact .inr hs
  have rm : RM ⟨K, cad⟩ [] H [] [] := ⟨rfl, .nil, fun b z => (List.not_mem_nil z).elim, ht, fun n a mo z _ => by rw [List.getElem?_nil] at z; cases z⟩
  have r1 : RD ⟨K, cad⟩ [] H [] (.lst (ns.map D.int)) (.ref a) := by
    unfold RD
    exact ⟨a, ns.map V.int, rfl, at_, RDs.of_ints ns⟩
  have hl : ([D.lst (ns.map D.int)] : List D).length = f.par.length := by rw [hp]; rfl
  refine ⟨[.lst (ns.map D.int)], [], [], [], fun d _ => d = .bl true, fun _ _ _ => False, RDs.cons r1 RDs.nil, rm, hl, h, ?_, fun _ _ _ z => z.elim⟩
  intro d M' e v H' α' n r m
  subst e
  exact r
end AA
/-! AA13: an own error whose __init__ says super().__init__(value); self.value = value (as skel/42's by import, over KE's super): made. -/
namespace AA
open PySem PySem.Spec PySem.W PySem.Calls PyProof.Rows PySem.HandSPX
def jArgs (p1 p2 : Pos) : Arguments := { posonlyargs := [], args := [{ arg := "self", annotation := none, pos := p1 }, { arg := "value", annotation := none, pos := p2 }], vararg := none, kwonlyargs := [], kw_defaults := [], kwarg := none, defaults := [] }
def jBody (q1 q2 q3 q4 q5 q6 q7 q8 q9 q10 : Pos) : List Stmt := [.Expr (.Call (.Attribute (.Call (.Name "super" q1) [] [] q2) "__init__" q3) [.Name "value" q4] [] q5) q6, .Assign [.Attribute (.Name "self" q7) "value" q8] (.Name "value" q9) q10]
def jScope : Scope := { kind := .function, names := [(PySem.Str.ofString "self", .local), (PySem.Str.ofString "value", .local), (PySem.Str.ofString "__class__", .free), (PySem.Str.ofString "super", .globalImplicit)], isGenerator := false, isCoroutine := false, more := [] }
abbrev veBases : List Value := [.type "ValueError", .type "Exception", .type "BaseException", .type "object"]
/-- what the written part says of the class x at C; D: the class whose __init__ it is, at fI; cc: its cell, cda: its code -/
structure JobTxt (P : Program) (K : Frag) (mg : Str → Option Value) (x : Str) (C D fI cc cda : Addr) : Prop where
  gC : mg x = some (.ref C)
  dbg : (x == ("__debug__" : Str)) = false
  cls : ∃ nm q N bs bm sn sub ab col dd k0 k1 k2 k3 k5, K.lookup C = some (excClassObj nm q C N bs bm true sn sub ab col dd k0 k1 k2 k3 k5 "ValueError.__new__") ∧ refsVE bm = true
  sa : findIn K (.ref C) "__setattr__" = some (some (.builtin "object.__setattr__"))
  nv : findIn K (.ref C) "value" = some none
  iC : findIn K (.ref C) "__init__" = some (some (.ref fI))
  tI : typeIn K (.ref fI) = some (.type "function")
  kC : keepIn K (.ref C) = true
  sb : subIn K (.ref C) (.type "BaseException") = some true
  ty : typeIn K (.ref C) = some (.type "type")
  fn : ∃ (oc : Value) (od : Option Addr) (doc pm : Value) (an : Option Addr) (ct : Value) (osl : Array (Option Value)) (p1 p2 q1 q2 q3 q4 q5 q6 q7 q8 q9 q10 : Pos), (q3.endLine == q5.line) = true ∧
    K.lookup fI = some ⟨oc, od, .func (ksFn "__init__" "JobError.__init__" (jArgs p1 p2) (jBody q1 q2 q3 q4 q5 q6 q7 q8 q9 q10) jScope .none .none doc pm an (.ref cda) ct cc), osl⟩ ∧ codeIn K (.ref cda) "JobError.__init__" = true
  code : ∃ (ccl : Value) (cdd : Option Addr) (vs : Array Value) (ccs : Array (Option Value)) (file : Str) (tf : Tok), K.lookup cda = some ⟨ccl, cdd, .fields vs, ccs⟩ ∧ vs[2]? = some (.str file tf) ∧ ((P.main.file : Str) == file) = true
  cell : ∃ (cl : Value) (cld : Option Addr) (csl : Array (Option Value)), K.lookup cc = some ⟨cl, cld, .cell (some (.ref D)), csl⟩
  isD : (clsIn K D).isSome = true
  su : mroIn K C (.ref D) = some true
  sup : mg "super" = none
  top : (P.main.scope.names.lookup ("super" : Str)).isSome = false
  opq : nsIn K cStatics "thirdparty.any" = some none
  sm : ks_superIn K C D "__init__" = some (some (.builtin "ValueError.__init__"))
  isB : subIn K (.ref C) (.type "ValueError") = some true
  qx : excInitIn K C veBases "ValueError.__new__" = true
theorem super_boot : bootBuiltins "super" = some (.type "super") := by decide +kernel
theorem one_fits (v : Value) : [v].length ≤ sizeLine := by
  rw [sizeLine_eq]
  exact (by decide : 1 ≤ 16777216)
theorem super_eq {q1 q2 q3 q4 q5 : Pos} {env : Env} (hl : (q3.endLine == q5.line) = true) : eval (.Call (.Attribute (.Call (.Name "super" q1) [] [] q2) "__init__" q3) [.Name "value" q4] [] q5) env = (do
      let ov ← attributeBase (.Call (.Name "super" q1) [] [] q2) "__init__" env (eval (.Call (.Name "super" q1) [] [] q2) env)
      standAt q3.atName
      let (f, first) ← holding [ov] (getMethod ov "__init__" (do return (← importBound (.Call (.Name "super" q1) [] [] q2) env).getD true))
      callWith q5 f first (backTo q5 (starEach [.Name "value" q4] env)) []) := by
  have hpos : methodCallPos true (.Call (.Name "super" q1) [] [] q2) env q3 q5 = pure q5 := by unfold methodCallPos; simp [hl]
  rw [arm_eval_Call]
  unfold methodCall
  have hf : methodCallForm ([Expr.Name "value" q4].length + ([] : List Keyword).length) (backTo q5 (starEach [.Name "value" q4] env)) (backToKw q5 (keywordEach [] env)) = true := rfl
  rw [hf, hpos]
  rfl
/-- what is left of a fresh exception at e -/
structure JEnd (h h' : Heap) (e C dx : Addr) (v : Value) : Prop where
  keep : ∀ b o, b ≠ e → h.get? b = some o → h'.get? b = some o
  obj : ∃ t1, h'.get? e = some { cls := .ref C, dict := some dx, data := .fields #[.ref t1, .none, .none, .none, .bool false, .none] }
  dbig : h.objs.size ≤ dx
  dne : dx ≠ e
  ns : h'.Ns1 dx (fun y => if y = "value" then some v else none)
section
variable {P : Program} {w : World} {A : Around} {E : Value → Shared → Prop} {R : Result → Shared → Prop} {s : Shared} {K : Frag} {mg mb : Str → Option Value} {x : Str} {C D fI cc cda : Addr}
theorem job_init (T : JobTxt P K mg x C D fI cc cda) {e t0 : Addr} {v : Value} (X : K.In s.heap) (gl : s.heap.Ns mainGlobals mg) (bl : s.heap.Ns builtinsNs mb) (bb : ∀ x : Str, x ≠ "__name__" → mb x = bootBuiltins x) (lim : s.heap.NoLimit)
    (he : s.heap.get? e = some (excO C t0)) (hne : K.lookup e = none) (room : A.depth < recursionLimit) (hq : ∀ h' tk dx, JEnd s.heap h' e C dx v → R (.ok (.ret .none)) { s with heap := h', toks := tk }) :
    codeAny (model P w) A (.call (.ref fI) ⟨[.ref e, v], []⟩) R s := by
  obtain ⟨oc, od, doc, pm, an, ct, osl, p1, p2, q1, q2, q3, q4, q5, q6, q7, q8, q9, q10, hln, ho, hcd⟩ := T.fn
  obtain ⟨ccl, cdd, vs, ccs, file, tf, hcode, hvs, hfile⟩ := T.code
  obtain ⟨cl, cld, csl, hcell⟩ := T.cell
  obtain ⟨nm, q, N, bs, bm, sn, sub, ab, col, dd, k0, k1, k2, k3, k5, hC, hbm⟩ := T.cls
  have hcl : clsIn K C = some { name := nm, bases := bs, mro := .ref C :: bm, ns := N, qualname := q, hasDict := true, slotNames := sn, subclasses := sub, abstract := ab, collection := col, hasDel := false } := by unfold clsIn; rw [hC] <;> rfl
  obtain ⟨cdD, hcdD⟩ := Option.isSome_iff_exists.mp T.isD
  obtain ⟨g0, hg0⟩ : ∃ g0, g0 = hideAll s.heap [e] := ⟨_, rfl⟩
  have up : ∀ b o, b ≠ e → s.heap.get? b = some o → g0.get? b = some o := fun b o n z => by rw [hg0]; exact hideAll_get _ z (by simp [n])
  have dn : ∀ b o, g0.get? b = some o → s.heap.get? b = some o := fun b o z => by rw [hg0] at z; exact of_hideAll _ z
  have ge : g0.get? e = none := by rw [hg0]; exact hideAll_none _ (by simp)
  have X0 : K.In g0 := fun b o z => up b o (fun y => by rw [y, hne] at z; cases z) (X b o z)
  have ns0 : ∀ {b : Addr} {m : Str → Option Value}, s.heap.Ns b m → g0.Ns b m := fun {b m} ⟨o, es, ep, z, d, r⟩ => ⟨o, es, ep, up b o (fun y => by rw [y, he] at z; cases z; cases d) z, d, r⟩
  refine ks_codeAny_call_defAt (body := jBody q1 q2 q3 q4 q5 q6 q7 q8 q9 q10) (binds := [("self", .ref e), ("value", v)]) room (X _ _ ho) rfl lim (codeRec_of X hcd) rfl (BindsTo.of_eq (by first | rfl | with_unfolding_all rfl)) (show ∀ y ∈ jScope.names, y.2 ≠ NameKind.cell from by decide) (by
    intro y hy
    rcases List.mem_cons.mp hy with rfl | hy
    · rfl
    · rcases List.mem_cons.mp hy with rfl | hy
      · rfl
      · cases hy) (fun h1 hns hk => ?_) rfl rfl rfl
  have F1 : Fr g0 s.heap.objs.size h1 (fun y => [(("self" : Str), Value.ref e), ("value", v)].reverse.lookup y) := ⟨hns, fun b o z => hk b o (dn b o z), by rw [hg0, hideAll_size]; exact Nat.le_refl _⟩
  have N1 : News g0 s.heap.objs.size h1 [(e, excO C t0)] := fun p hp => by
    rcases List.mem_cons.mp hp with rfl | hp
    · exact ⟨hk _ _ he, Nat.ne_of_lt (Heap.lt_size he), ge⟩
    · cases hp
  have X1 : K.In h1 := X.keeps hk
  have I1 : InstAt h1 e (excO C t0) C none := ⟨hk _ _ he, rfl, rfl, trivial⟩
  obtain ⟨oD, hD1, hD2⟩ : ∃ oD, h1.get? D = some oD ∧ oD.data = .cls cdD := by
    have z := hcdD
    unfold clsIn at z
    split at z
    · rename_i c d cd' sl ho'
      cases z
      exact ⟨_, X1 _ _ ho', rfl⟩
    · cases z
  have lself : (fun y => [(("self" : Str), Value.ref e), ("value", v)].reverse.lookup y) "self" = some (.ref e) := by first | rfl | with_unfolding_all rfl
  have lval : (fun y => [(("self" : Str), Value.ref e), ("value", v)].reverse.lookup y) "value" = some v := by first | rfl | with_unfolding_all rfl
  -- super().__init__(value)
  refine ks_wpAt_execs_cons (ks_wpAt_Expr_any (ks_wpAt_MethodCall ?_ (super_eq hln)))
  refine ks_wpAt_super_base (f := fI) (cc := cda) (ar := { arg := "self", annotation := none, pos := p1 }) rfl rfl rfl rfl (X1 _ _ ho) rfl rfl rfl (X1 _ _ hcode) rfl hvs hfile T.top ?_
  refine ks_loadName_global rfl rfl (loadGlobal_builtin ((ns0 gl).keeps F1.keep) T.sup ((ns0 bl).keeps F1.keep) ((bb _ (by decide +kernel)).trans super_boot) ⟨rfl, ?_⟩)
  refine wpAny_loadName_free rfl rfl rfl ⟨_, X1 _ _ hcell, rfl⟩ ?_
  refine wpAny_loadName_local rfl rfl F1.ns lself ?_
  refine ks_wpAny_isType_cls hD1 hD2 ⟨rfl, ?_⟩
  refine ks_wpAny_call_super hD1 hD2 I1.at_ I1.cls (fun c z => by cases z) (looks_mroIn X1 T.su) (fun h2 ho2 hk2 => ?_)
  obtain ⟨F2, N2, l2⟩ := ks_newsPush (s := { s with heap := h1 }) F1 N1 rfl ho2 hk2
  have I2 : InstAt h2 e (excO C t0) C none := ⟨hk2 _ _ (hk _ _ he), rfl, rfl, trivial⟩
  refine kxs_method kxs_ValueError F2 X0 N2 List.mem_cons_self I2 T.opq T.sm T.isB rfl (fun u h3 F3 N3 l3 => ?_)
  refine kxs_callWith1 N3 List.mem_cons_self (PyProof.Rows.args_cons (wpAny_Name (wpAny_loadName_local rfl rfl F3.ns lval ?_)) rfl)
  refine PyProof.Rows.args_nil ?_
  have ue : u ≠ e := Nat.ne_of_gt (l3 (e, excO C t0) (by simp))
  have se : h1.objs.size ≠ e := Nat.ne_of_gt (Heap.lt_size (hk _ _ he))
  refine ⟨kxs_at N3 List.mem_cons_self, kxs_call (t := t0) (dv := none) (c2 := .none) F3 X0 N3 F.excBase_ValueError T.qx List.mem_cons_self (.tail ue (.tail se (.head (fun p hp => by cases hp)))) (one_fits v) fun t1 h4 F4 N4 l4 => ?_⟩
  -- self.value = value
  refine ks_wpAt_execs_cons (ks_wpAt_Assign_Attr (wpAt_of_wpAny ?_))
  refine wpAny_Name (wpAny_loadName_local rfl rfl F4.ns lval (wpAny_Name (wpAny_loadName_local rfl rfl F4.ns lself ?_)))
  have X4 : K.In h4 := X0.keeps F4.keep
  have e4 : h4.get? e = some (excO C t1) := (N4 (e, excO C t1) (by simp)).1
  refine set_plain X4 (ox := excO C t1) (od := none) ⟨e4, rfl, rfl, trivial⟩ T.sa ?_
  refine exc_osa X4 e4 hcl (show refsVE (.ref C :: bm) = true from hbm) rfl T.nv (fun h5 tk5 dx k5 dn5 dne5 he5 hn5 => ?_)
  refine wpAt_of_wpAny (wpAny_execs_nil (hq h5 tk5 dx ⟨fun b o hb z => k5 b o hb (F4.keep b o (up b o hb z)), ⟨t1, he5⟩, ?_, dne5, hn5⟩))
  have z1 : s.heap.objs.size < h4.objs.size := F4.ns.lt
  exact Nat.le_of_lt (Nat.lt_of_lt_of_le z1 dn5)
/-- a made error -/
structure JMade (h h' : Heap) (e C d : Addr) (v : Value) : Prop where
  keep : ∀ b o, h.get? b = some o → h'.get? b = some o
  new : h.objs.size ≤ e
  obj : ∃ oe vs, h'.get? e = some oe ∧ oe.cls = .ref C ∧ oe.dict = some d ∧ oe.data = .fields vs ∧ vs[1]? = some .none
  dbig : h.objs.size ≤ d
  dne : d ≠ e
  ns : h'.Ns1 d (fun y => if y = "value" then some v else none)
theorem job_made (T : JobTxt P K mg x C D fI cc cda) {v : Value} (X : K.In s.heap) (gl : s.heap.Ns mainGlobals mg) (bl : s.heap.Ns builtinsNs mb) (bb : ∀ x : Str, x ≠ "__name__" → mb x = bootBuiltins x) (lim : s.heap.NoLimit) (room : A.depth + 1 < recursionLimit)
    (hq : ∀ h' tk e d, JMade s.heap h' e C d v → R (.ok (.ret (.ref e))) { s with heap := h', toks := tk }) : codeAny (model P w) A (.call (.ref C) ⟨[v], []⟩) R s := by
  obtain ⟨nm, q, N, bs, bm, sn, sub, ab, col, dd, k0, k1, k2, k3, k5, hC, hbm⟩ := T.cls
  obtain ⟨hp, gs, dr, tk, os⟩ := s
  have up : ∀ b o, hp.get? b = some o → ((hp.push (kdv_tup [v])).push (excO C hp.objs.size)).get? b = some o := fun b o e => Heap.get?_push_of_some _ (Heap.get?_push_of_some _ e)
  have at1 : ((hp.push (kdv_tup [v])).push (excO C hp.objs.size)).get? (hp.objs.size + 1) = some (excO C hp.objs.size) := by heap_get
  have free1 : K.lookup (hp.objs.size + 1) = none := by
    cases z : K.lookup (hp.objs.size + 1) with
    | none => rfl
    | some o => exact absurd (Nat.lt_of_succ_lt (Heap.lt_size (show hp.get? (hp.objs.size + 1) = some o from X _ _ z))) (Nat.lt_irrefl _)
  refine call_own F.excBase_ValueError (fun X => refsVE_contains X bm hbm) (X _ _ hC) (looks_findIn X T.iC) (fun self => bind_fn X self T.tI) (one_fits v) ?_
  refine job_init (s := ⟨(hp.push (kdv_tup [v])).push (excO C hp.objs.size), gs, dr, tk, os⟩) T (X.keeps up) (gl.keeps up) (bl.keeps up) bb (lim.keeps up) at1 free1 room fun h' tk' dx J => ?_
  obtain ⟨t1, ob⟩ := J.obj
  have big : hp.objs.size + 1 + 1 ≤ dx := by
    have z := J.dbig
    rw [Heap.size_push, Heap.size_push] at z
    exact z
  exact ⟨rfl, hq h' tk' (hp.objs.size + 1) dx ⟨fun b o z => J.keep b o (Nat.ne_of_lt (Nat.lt_succ_of_lt (Heap.lt_size z))) (up b o z), Nat.le_succ _, ⟨_, _, ob, rfl, rfl, rfl, rfl⟩, Nat.le_trans (Nat.le_trans (Nat.le_succ _) (Nat.le_succ _)) big, J.dne, J.ns⟩⟩
end
end AA
namespace AA
open PySem PySem.Spec L2
open PyProof.Rows hiding St
theorem val_only {v : V} {v' : Value} (r : RelV v v') (f : Str) : RelO (List.lookup f [(("value" : Str), v)]) (if f = "value" then some v' else none) := by
  by_cases e : f = "value"
  · subst e
    rw [if_pos rfl, show List.lookup ("value" : Str) [(("value" : Str), v)] = some v by simp [List.lookup]]
    exact r
  · have n : (f == ("value" : Str)) = false := by simpa using e
    rw [if_neg e, show List.lookup f [(("value" : Str), v)] = none by simp [List.lookup, n]]
    trivial
/-- C(e) may be said -/
theorem mk_ok {X : Cx} {x : Str} {C D fI cc cda : Addr} {L : Nat} (T : JobTxt X.prog X.K X.mg x C D fI cc cda) (hr : Room L X.A) : MkOk X C x := by
  intro a p pos ta ha hg he pins s σ H Q I h
  refine wpAny_Call_Name_kw (ld_glob I hg T.gC ?_ T.dbg)
  refine PySem.W.callWith_K (h₀ := X.base) I.ok.mod.kin T.kC (thn (ha.run pos pins s σ H _ I h) fun us s1 ⟨vs, H1, I1, r1, v, ev, q1⟩ => ⟨I1.kIn, ?_⟩) he (by rfl)
  subst ev
  obtain ⟨u, rfl, ru⟩ := vals1 r1
  show wpAny _ _ (call (.ref C) [u]) _ _ _
  obtain ⟨mb, b1, b2⟩ := I1.mod.blt
  have dp := hr.dp
  refine wpAny_call (job_made T I1.kIn (I1.mod.glob.keeps I1.bk) (b1.keeps I1.bk) b2 I1.nolimit (by omega) fun h2 tk e d M => ?_)
  show MkP X pins σ Q (.ref e) { s1 with heap := h2, toks := tk }
  obtain ⟨oe, fv, e1, e2, e3, e4, e5⟩ := M.obj
  obtain ⟨G, g1, g2⟩ := restrict h2 fun b => decide (b ≠ e)
  have keep : ∀ b, b ≠ e → G.get? b = h2.get? b := fun b hb => g1 b (decide_eq_true hb)
  have gone : G.get? e = none := g2 e (by simp)
  have old : ∀ b o, s1.heap.get? b = some o → G.get? b = some o := fun b o z => (keep b (Nat.ne_of_lt (Nat.lt_of_lt_of_le (Heap.lt_size z) M.new))).trans (M.keep b o z)
  have ob : ObjOk X.prog X.w (upd H1 d (.xd [(("value" : Str), v)])) G d (.xd [(("value" : Str), v)]) := ⟨_, M.ns.at (fun o z => (keep d M.dne).trans z), fun f => val_only ru f⟩
  have J : Inv X pins σ (upd H1 d (.xd [(("value" : Str), v)])) { s1 with heap := G, toks := tk } := I1.laid (t' := tk) old M.dbig ob
  refine ⟨e, oe, fv, { s1 with heap := G, toks := tk }, _, .ref C, some d, rfl, J, fun b o z => ?_, gone, e1, ⟨e2, e3⟩, e4, e5, ?_, rfl, I1.bare, raises_own T.sb T.ty, q1 d (I1.hok.fresh M.dbig)⟩
  · by_cases hb : b = e
    · have z2 : G.get? b = some o := z
      rw [hb, gone] at z2; cases z2
    · exact (keep b hb).symm.trans z
  · rw [upd_ne (Ne.symm M.dne)]
    exact I1.hok.fresh M.new
end AA
/-! AA14: a law's ends: the facts of the top gathered. -/
namespace AA
open PySem PySem.Spec L2
open PyProof.Rows hiding St

theorem walkG3 {l : PySem.W.OpenLaw} {n k : Nat} {q : Program} {loose : List Str} {XP : (Str → Option Value) → Heap → Prop} {YP : World → Heap → Prop} {d : DefRec} {K : Params → PySem.W.Frag} {x : Str}
    (hn : l.most = some n) (hn2 : n ≤ sizeLine) (hdf : d.params.defaults = []) (hr : Room k callerA) (hY : ∀ (w : World) (h : Heap), YP w h → (K w.params).In h)
    (F : ∀ (w : World) (mg : Str → Option Value) (fa : Addr) (h : Heap), (K w.params).In h → h.Ns mainGlobals mg → (∀ (x : Str) (c P : Addr), PySem.W.tabIn (K w.params) x = some (c, P) → ((PyProof.Rows.recsOf q).any fun e => e.name == x) = true → PySem.W.CodeHd h c P ∧ h.get? P = some (PySem.W.tabObj #[])) → mg d.name = some (.ref fa) →
      ∃ (fd : FuncData) (sp : Sp) (cs : List (Addr × Addr)), (∀ (s : Shared) (u : Value), BindsTo s fd ⟨[u], []⟩ [(x, u)]) ∧ (∀ p ∈ cs, PySem.W.CodeHd h p.1 p.2 ∧ h.get? p.2 = some (PySem.W.tabObj #[]) ∧ (K w.params).lookup p.2 = none) ∧
        (∀ base : Heap, (K w.params).In base → base.Ns mainGlobals mg → (∀ p ∈ cs, LamX.TabB base mg p.1 p.2) → FnG l.prog w (K w.params) mg base k fa fd [x] sp) ∧
        ∀ (H : Hp) (a : Addr) (ns : List Int), ns.length ≤ n → OnlyT cs H → SqL (K w.params) H a (ns.map V.int) → sp [.ref a] H (fun v _ => v = .bl true) fun _ _ _ => False) :
    PySem.W.WalkO q loose XP YP l.row.toRowW d [] (fun f vs => PySem.call f vs) := by
  refine Att.attach_call hn hdf fun w s0 s1 mg mb fa o pm cd doc a vs ns G Y ho hd hcd hmg hobj hints hlen hg => ?_
  obtain ⟨fd, sp, cs, hb, ht, hF, hsp⟩ := F w mg fa _ (hY w _ Y) G.T.g (fun x c P e1 e2 => by
    obtain ⟨d', hd', e3⟩ := List.any_eq_true.mp e2
    cases e4 : (PyProof.Rows.recsOf q).find? (fun e => e.name == x) with
    | none => exact absurd e3 (by simpa using List.find?_eq_none.mp e4 d' hd')
    | some d2 => exact PySem.W.tab_of G.T (hY w _ Y) e4 e1) hmg
  exact lawGT (hY w _ Y) G.T.g G.T.b G.T.builtins G.T.nolimit hg ht (fun _ => G.T.bmain) hobj hints (Nat.le_trans hlen hn2) hr hF hb (fun H hO hS => hsp H a ns hlen hO hS) fun H e s' z => by
    obtain ⟨_, _, _, _, _, _, _, _, _, _, _, _, z⟩ := z
    exact z
/-- tables told by name -/
theorem tabs_of {cs : List (Addr × Addr)} {T : List (Addr × Str)} {H : Hp} (h : OnlyT cs H) (e : T.map (·.1) = cs.map (·.2)) : LamX.Tabs T H := fun q hq => by
  have hm : q.1 ∈ cs.map (·.2) := by rw [← e]; exact List.mem_map.mpr ⟨q, hq, rfl⟩
  obtain ⟨p, hp, ep⟩ := List.mem_map.mp hm
  exact LamX.TabS.nil (by rw [← show p.2 = q.1 from ep]; exact h p hp)
section
variable {Γ : Tab} {P : Program} {w : World} {K : PySem.W.Frag} {cad : Cad} {mg : Str → Option Value} {base : Heap} {L : Nat}
/-- a def of the module, by all that its text and the top tell -/
theorem fnI_of {f : Fn} {qual : Str} {st : Stmt} {fa : Addr} {fd : FuncData} {N : List Str} {body : Ss} (m : Mo Γ P w K cad mg base L) (Fu : Fun K f.name qual st fa fd) (S : FnScope N f.par (defScope st)) (chk : chkSs Γ N (defScope st) (fun _ => true) body (defBody st) = true)
    (hsp : ∀ ds M Q X, ds.length = f.par.length → f.sp ds M Q X → wpSs Γ body (dEnds Q X) (dstart N ds) M) (htb : Γ.lams.contains N = true → DefTb Γ P w K cad mg base L fd qual) (hd : (f.name == ("__debug__" : Str)) = false) (hm : mg f.name = some (.ref fa)) (hb : Binds K fd f.par [])
    (hk : f.kw = true → ∀ (s : Shared) (ws : List Value), K.In s.heap → ws.length = f.par.length → BindsTo s fd ⟨[], f.par.zip ws⟩ (f.par.zip ws)) (how : f.own = none := by rfl) : FnI P w K cad mg base (L + 1) f :=
  ⟨hd, fa, fd, L + 1, by unfold slack; rw [how]; exact Nat.le_refl _, def_ok m Fu S chk hsp htb, by unfold AtN; rw [how]; exact ⟨hm, Fu.kp⟩, hb, hk⟩
/-- a def of a class: __init__, a method, a getter -/
theorem fnM_of {f : Fn} {nm qual : Str} {st : Stmt} {fa : Addr} {fd : FuncData} {N : List Str} {body : Ss} (m : Mo Γ P w K cad mg base L) (Fu : Fun K nm qual st fa fd) (S : FnScope N f.par (defScope st)) (chk : chkSs Γ N (defScope st) (fun _ => true) body (defBody st) = true)
    (hsp : ∀ ds M Q X, ds.length = f.par.length → f.sp ds M Q X → wpSs Γ body (dEnds Q X) (dstart N ds) M) (htb : Γ.lams.contains N = true → DefTb Γ P w K cad mg base L fd qual) (hd : (f.name == ("__debug__" : Str)) = false) (hat : AtN K cad mg f fa) (hb : Binds K fd f.par []) (hk : f.kw = false) : FnI P w K cad mg base (L + 2) f :=
  ⟨hd, fa, fd, L + 1, by unfold slack; split <;> omega, def_ok m Fu S chk hsp htb, hat, hb, fun z => by rw [hk] at z; cases z⟩
/-- a def that is not called by its own promise -/
theorem fnI_no {f : Fn} {qual : Str} {st : Stmt} {fa : Addr} {fd : FuncData} (L : Nat) (hf : ∀ ds M Q X, ¬ f.sp ds M Q X) (Fu : Fun K f.name qual st fa fd) (hd : (f.name == ("__debug__" : Str)) = false) (hm : mg f.name = some (.ref fa)) (hb : Binds K fd f.par []) (hk : f.kw = false) (how : f.own = none := by rfl) : FnI P w K cad mg base L f :=
  ⟨hd, fa, fd, L, by unfold slack; rw [how]; exact Nat.le_refl _, ⟨fun vs H Q E h => lsp_len h, fun A callers s H args us vs Q E _ _ _ _ _ h => by
    obtain ⟨_, _, _, _, _, _, _, _, _, z, _⟩ := h
    exact (hf _ _ _ _ z).elim⟩, by unfold AtN; rw [how]; exact ⟨hm, Fu.kp⟩, hb, fun z => by rw [hk] at z; cases z⟩
theorem tab_is {x qual : Str} {f c Pt : Addr} {oc : Value} {od od2 : Option Addr} {a : Arguments} {b : List Stmt} {sc : Scope} {dV kV doc pm cd ct yc : Value} {an : Option Addr} {sl ys : Array (Option Value)} {vs : Array Value}
    (e1 : PySem.W.nsIn K mainGlobals x = some (some (.ref f))) (e2 : K.lookup f = some ⟨oc, od, .func (PySem.W.fnOf x qual a b sc dV kV doc pm an cd ct), sl⟩) (e3 : cd = .ref c) (e4 : K.lookup c = some ⟨yc, od2, .fields vs, ys⟩) (e5 : vs[11]? = some (.ref Pt)) : PySem.W.tabIn K x = some (c, Pt) := by
  subst e3
  unfold PySem.W.tabIn
  simp only [e1, e2, e4, e5]
theorem fns_nil {L : Nat} : ∀ (k : Nat) f, ([] : List Fn)[k]? = some f → FnI P w K cad mg base L f := fun k f h => by simp at h
theorem fns_snoc {l : List Fn} {g : Fn} {L : Nat} (h : ∀ (k : Nat) f, l[k]? = some f → FnI P w K cad mg base L f) (hg : FnI P w K cad mg base (L + 1) g) : ∀ (k : Nat) f, (l ++ [g])[k]? = some f → FnI P w K cad mg base (L + 1) f := fun k f e => by
  by_cases hk : k < l.length
  · rw [List.getElem?_append_left hk] at e
    exact (h k f e).mono (Nat.le_succ L)
  · rw [List.getElem?_append_right (Nat.le_of_not_lt hk)] at e
    cases hz : k - l.length with
    | zero => rw [hz] at e; cases e; exact hg
    | succ n => rw [hz] at e; simp at e
/-- what does not hang on the level: the module's facts -/
structure Mo0 (lc : List (Str × D)) (ln : List Str) (sub : Nat → Nat → Bool) (la li : List (Nat × Str)) (P : Program) (K : PySem.W.Frag) (cad : Cad) (mg : Str → Option Value) : Prop where
  cst : ∀ (k : Nat) c, lc[k]? = some c → (c.1 == ("__debug__" : Str)) = false ∧ ∃ v u, mg c.1 = some u ∧ RelV v u ∧ ∀ ρ H α, RD ⟨K, cad⟩ ρ H α c.2 v
  bi : ∀ n ∈ biNames, mg n = none
  exc : ∀ c, c < ln.length → ExcK K (cad c)
  cls : ∀ c x, ln[c]? = some x → ClsK K mg cad ln.length sub c x
  ve : ∀ c, c < ln.length → PySem.W.kitOne K (.ref (cad c)) (.type "ValueError") = some true
  job : ∀ (c : Nat) x, ln[c]? = some x → ∃ D fI cc cda, JobTxt P K mg x (cad c) D fI cc cda
  ats : AtsOk K cad la
  ins : ∀ p ∈ li, InsC K mg cad p.1 p.2
theorem Mo0.mo {cst : List (Str × D)} {cls : List Str} {sub : Nat → Nat → Bool} {lams : List (List Str)} {ats ins : List (Nat × Str)} {l : List Fn} (m : Mo0 cst cls sub ats ins P K cad mg) (h : ∀ (k : Nat) f, l[k]? = some f → FnI P w K cad mg base L f) : Mo ⟨cst, l, cls, sub, PyData.shown, lams, ats, ins⟩ P w K cad mg base L :=
  ⟨h, m.cst, m.bi, rfl, m.exc, m.cls, m.ve, m.ats, m.ins, fun c x e X e1 e2 e3 e4 e5 hr => by
    obtain ⟨D, fI, cc, cda, J⟩ := m.job c x e
    subst e1 e2 e3 e4 e5
    exact mk_ok J hr⟩
/-- a list by its items -/
theorem all_nil {α : Type} {p : Nat → α → Prop} : ∀ (k : Nat) a, ([] : List α)[k]? = some a → p k a := fun k a h => by simp at h
theorem all_cons {α : Type} {p : Nat → α → Prop} {x : α} {l : List α} (h0 : p 0 x) (h : ∀ (k : Nat) a, l[k]? = some a → p (k + 1) a) : ∀ (k : Nat) a, (x :: l)[k]? = some a → p k a
  | 0, a, e => by simp at e; subst e; exact h0
  | k + 1, a, e => h k a (by simpa using e)
theorem cst_int {h : Heap} (X : K.In h) (G : h.Ns mainGlobals mg) {x : Str} {i : Int} {t : Tok} (hd : (x == ("__debug__" : Str)) = false) (e : PySem.W.nsIn K mainGlobals x = some (some (.int i t))) :
    (x == ("__debug__" : Str)) = false ∧ ∃ v u, mg x = some u ∧ RelV v u ∧ ∀ ρ H α, RD ⟨K, cad⟩ ρ H α (.int i) v := ⟨hd, .int i, _, PySem.W.mg_of X G e, ⟨t, rfl⟩, fun _ _ _ => rfl⟩
theorem cst_str {h : Heap} (X : K.In h) (G : h.Ns mainGlobals mg) {x y : Str} {t : Tok} (hd : (x == ("__debug__" : Str)) = false) (e : PySem.W.nsIn K mainGlobals x = some (some (.str y t))) :
    (x == ("__debug__" : Str)) = false ∧ ∃ v u, mg x = some u ∧ RelV v u ∧ ∀ ρ H α, RD ⟨K, cad⟩ ρ H α (.str y) v := ⟨hd, .str y, _, PySem.W.mg_of X G e, ⟨t, rfl⟩, fun _ _ _ => rfl⟩
def intOfV : Value → Option Int
  | .int i _ => some i
  | _ => none
theorem vals_of : ∀ (vs : List Value) (ns : List Int), vs.map intOfV = ns.map some → Vals (ns.map V.int) vs
  | [], [], _ => .nil
  | [], _ :: _, h => by simp at h
  | _ :: _, [], h => by simp at h
  | v :: vs, n :: ns, h => by
    rw [List.map_cons, List.map_cons] at h
    injection h with h1 h2
    refine .cons ?_ (vals_of vs ns h2)
    cases v <;> simp [intOfV] at h1
    subst h1
    exact ⟨_, rfl⟩
/-- a constant that is a tuple of whole numbers -/
theorem cst_tup {h : Heap} (X : K.In h) (G : h.Ns mainGlobals mg) {x : Str} {ns : List Int} {a : Addr} {its : Array Value} {n : Nat} {dd : Option Addr} {sl : Array (Option Value)} (hd : (x == ("__debug__" : Str)) = false) (e : PySem.W.nsIn K mainGlobals x = some (some (.ref a)))
    (lk : K.lookup a = some ⟨.type "tuple", dd, .seq its n, sl⟩) (hv : its.toList.map intOfV = ns.map some) (hl : ns.length ≤ 1000) :
    (x == ("__debug__" : Str)) = false ∧ ∃ v u, mg x = some u ∧ RelV v u ∧ ∀ ρ H α, RD ⟨K, cad⟩ ρ H α (.tup (ns.map D.int)) v := by
  refine ⟨hd, .ref a, _, PySem.W.mg_of X G e, rfl, fun ρ H α => ⟨a, ns.map V.int, rfl, .inr ⟨_, its, n, lk, rfl, rfl, ?_, vals_of _ _ hv⟩, RDs.of_ints ns⟩⟩
  have := congrArg List.length hv
  rw [List.length_map, List.length_map, Array.length_toList] at this
  rw [sizeLine_eq]
  omega
/-- rows of whole numbers, each a tuple of the text -/
def RowsAt (K : PySem.W.Frag) : List Value → List (List Int) → Prop
  | [], [] => True
  | u :: us, ns :: rows => (∃ (b : Addr) (dd : Option Addr) (its : Array Value) (n : Nat) (sl : Array (Option Value)), u = .ref b ∧ K.lookup b = some ⟨.type "tuple", dd, .seq its n, sl⟩ ∧ its.toList.map intOfV = ns.map some ∧ ns.length ≤ 1000) ∧ RowsAt K us rows
  | _, _ => False
theorem rows_rd : ∀ {us : List Value} {rows : List (List Int)}, RowsAt K us rows → us.length = rows.length ∧ ∃ vs, Vals vs us ∧ ∀ ρ H α, RDs ⟨K, cad⟩ ρ H α (rows.map fun ns => .tup (ns.map D.int)) vs
  | [], [], _ => ⟨rfl, [], .nil, fun _ _ _ => RDs.nil⟩
  | [], _ :: _, h => h.elim
  | _ :: _, [], h => h.elim
  | u :: us, ns :: rows, h => by
    obtain ⟨⟨b, dd, its, n, sl, rfl, lk, hv, hl⟩, h2⟩ := h
    obtain ⟨l, vs, r1, r2⟩ := rows_rd h2
    refine ⟨by rw [List.length_cons, List.length_cons, l], .ref b :: vs, .cons rfl r1, fun ρ H α => RDs.cons ⟨b, ns.map V.int, rfl, .inr ⟨_, its, n, lk, rfl, rfl, ?_, vals_of _ _ hv⟩, RDs.of_ints ns⟩ (r2 ρ H α)⟩
    have := congrArg List.length hv
    rw [List.length_map, List.length_map, Array.length_toList] at this
    rw [sizeLine_eq]
    omega
/-- a constant that is a tuple of tuples of whole numbers -/
theorem cst_rows {h : Heap} (X : K.In h) (G : h.Ns mainGlobals mg) {x : Str} {rows : List (List Int)} {a : Addr} {its : Array Value} {n : Nat} {dd : Option Addr} {sl : Array (Option Value)} (hd : (x == ("__debug__" : Str)) = false) (e : PySem.W.nsIn K mainGlobals x = some (some (.ref a)))
    (lk : K.lookup a = some ⟨.type "tuple", dd, .seq its n, sl⟩) (hv : RowsAt K its.toList rows) (hl : rows.length ≤ 1000) :
    (x == ("__debug__" : Str)) = false ∧ ∃ v u, mg x = some u ∧ RelV v u ∧ ∀ ρ H α, RD ⟨K, cad⟩ ρ H α (.tup (rows.map fun ns => .tup (ns.map D.int))) v := by
  obtain ⟨l, vs, r1, r2⟩ := rows_rd (cad := cad) hv
  refine ⟨hd, .ref a, _, PySem.W.mg_of X G e, rfl, fun ρ H α => ⟨a, vs, rfl, .inr ⟨_, its, n, lk, rfl, rfl, ?_, r1⟩, r2 ρ H α⟩⟩
  rw [Array.length_toList] at l
  rw [sizeLine_eq]
  omega
/-- a class's facts, gathered -/
structure CFacts (P : Program) (K : PySem.W.Frag) (x : Str) (C D fI cc cda : Addr) (bm : List Value) : Prop where
  aC : PySem.W.nsIn K mainGlobals x = some (some (.ref C))
  xL : ∃ nm q N bs sn sub ab col dd k0 k1 k2 k3 k5, K.lookup C = some (PySem.excClassObj nm q C N bs bm true sn sub ab col dd k0 k1 k2 k3 k5 "ValueError.__new__")
  rb : PySem.HandSPX.refsVE bm = true
  ex : ExcK K C
  sa : PySem.W.findIn K (.ref C) "__setattr__" = some (some (.builtin "object.__setattr__"))
  iC : PySem.W.findIn K (.ref C) "__init__" = some (some (.ref fI))
  tI : PySem.W.typeIn K (.ref fI) = some (.type "function")
  kC : PySem.W.keepIn K (.ref C) = true
  ty : PySem.W.typeIn K (.ref C) = some (.type "type")
  su : PySem.W.mroIn K C (.ref D) = some true
  sm : PySem.W.ks_superIn K C D "__init__" = some (some (.builtin "ValueError.__init__"))
  isB : PySem.W.subIn K (.ref C) (.type "ValueError") = some true
  qx : PySem.W.excInitIn K C veBases "ValueError.__new__" = true
/-- what the classes share -/
structure JFacts (P : Program) (K : PySem.W.Frag) (D fI cc cda : Addr) : Prop where
  fn : ∃ (oc : Value) (od : Option Addr) (doc pm : Value) (an : Option Addr) (ct : Value) (osl : Array (Option Value)) (p1 p2 q1 q2 q3 q4 q5 q6 q7 q8 q9 q10 : Pos), (q3.endLine == q5.line) = true ∧
    K.lookup fI = some ⟨oc, od, .func (PySem.W.ksFn "__init__" "JobError.__init__" (jArgs p1 p2) (jBody q1 q2 q3 q4 q5 q6 q7 q8 q9 q10) jScope .none .none doc pm an (.ref cda) ct cc), osl⟩ ∧ PySem.W.codeIn K (.ref cda) "JobError.__init__" = true
  code : ∃ (ccl : Value) (cdd : Option Addr) (vs : Array Value) (ccs : Array (Option Value)) (file : Str) (tf : Tok), K.lookup cda = some ⟨ccl, cdd, .fields vs, ccs⟩ ∧ vs[2]? = some (.str file tf) ∧ ((P.main.file : Str) == file) = true
  cell : ∃ (cl : Value) (cld : Option Addr) (csl : Array (Option Value)), K.lookup cc = some ⟨cl, cld, .cell (some (.ref D)), csl⟩
  isD : (PySem.W.clsIn K D).isSome = true
  sup : PySem.W.nsIn K mainGlobals "super" = some none
  top : (P.main.scope.names.lookup ("super" : Str)).isSome = false
  opq : PySem.W.nsIn K PySem.cStatics "thirdparty.any" = some none
theorem CFacts.job {h : Heap} (X : K.In h) (G : h.Ns mainGlobals mg) {x : Str} {C D fI cc cda : Addr} {bm : List Value} (c : CFacts P K x C D fI cc cda bm) (j : JFacts P K D fI cc cda) (hd : (x == ("__debug__" : Str)) = false) : JobTxt P K mg x C D fI cc cda := by
  obtain ⟨nm, q, N, bs, sn, sub, ab, col, dd, k0, k1, k2, k3, k5, xL⟩ := c.xL
  exact ⟨PySem.W.mg_of X G c.aC, hd, ⟨nm, q, N, bs, bm, sn, sub, ab, col, dd, k0, k1, k2, k3, k5, xL, c.rb⟩, c.sa, c.ex.nv, c.iC, c.tI, c.kC, c.ex.sb, c.ty, j.fn, j.code, j.cell, j.isD, c.su, PySem.W.mg_none_of X G j.sup, j.top, j.opq, c.sm, c.isB, c.qx⟩
end
end AA
/-! AA15: readings in short, for the laws' own proofs. -/
namespace AA
open PySem PySem.Spec
theorem shaped_int (i : Int) : SeqAt.shaped (.int i) = true := rfl
theorem cmp_eq_int {M : Mem} {i j : Int} {k : Bool → Prop} : cmpD .eq M (.int i) (.int j) k ↔ k (decide (i = j)) := by
  simp only [cmpD, pdM, pd, PyData.eqv, shaped_int, true_and]
  rw [show (i == j) = decide (i = j) from rfl]
theorem cmp_ne_int {M : Mem} {i j : Int} {k : Bool → Prop} : cmpD .ne M (.int i) (.int j) k ↔ k (decide (i ≠ j)) := by
  simp only [cmpD, pdM, pd, PyData.eqv, shaped_int, true_and]
  rw [show (!(i == j)) = decide (i ≠ j) by by_cases h : i = j <;> simp [h]]
theorem cmp_eq_str {M : Mem} {x y : Str} {k : Bool → Prop} : cmpD .eq M (.str x) (.str y) k ↔ k (decide (x = y)) := Iff.rfl
theorem cmp_ne_str {M : Mem} {x y : Str} {k : Bool → Prop} : cmpD .ne M (.str x) (.str y) k ↔ k (!decide (x = y)) := Iff.rfl
theorem cmp_lt {M : Mem} {i j : Int} {k : Bool → Prop} : cmpD .lt M (.int i) (.int j) k ↔ k (decide (i < j)) := Iff.rfl
theorem cmp_le {M : Mem} {i j : Int} {k : Bool → Prop} : cmpD .le M (.int i) (.int j) k ↔ k (decide (i ≤ j)) := Iff.rfl
theorem cmp_gt {M : Mem} {i j : Int} {k : Bool → Prop} : cmpD .gt M (.int i) (.int j) k ↔ k (decide (j < i)) := Iff.rfl
theorem cmp_ge {M : Mem} {i j : Int} {k : Bool → Prop} : cmpD .ge M (.int i) (.int j) k ↔ k (decide (j ≤ i)) := Iff.rfl
/-- sizes that need no thought -/
theorem mul_l {i j : Int} (h1 : -18446744073709551616 < i) (h2 : i < 18446744073709551616) : MulOk i j := .inl (.inl ⟨h1, h2⟩)
theorem mul_r {i j : Int} (h1 : -18446744073709551616 < j) (h2 : j < 18446744073709551616) : MulOk i j := .inl (.inr ⟨h1, h2⟩)
theorem log2_lt {n k : Nat} (h : n < 2 ^ k) (hk : 0 < k) : n.log2 < k := by
  by_cases z : n = 0
  · subst z; simpa using hk
  · exact (Nat.log2_lt z).mpr h
theorem div_ok {j : Int} (h0 : 0 < j) (h1 : j < 1073741824) : DivOk j := ⟨h0, .inl h1⟩
theorem pow_ok {i j : Int} (h : i.natAbs < 2 ^ 1000) (h0 : 0 ≤ j) (h1 : j ≤ 100) : PowOk i j := by
  have z := log2_lt h (by decide)
  refine ⟨h0, ?_⟩
  have a : ((i.natAbs.log2 : Int) + 1) * j ≤ 1000 * 100 := Int.mul_le_mul (by omega) h1 h0 (by decide)
  exact Int.le_trans a (by decide)
theorem ixN_nat {n k : Nat} (h : k < n) : L2.ixN n (k : Int) = some k := by
  unfold L2.ixN
  simp
  omega
theorem seqD_ref {M : Mem} {n : Nat} {xs : List D} (h : M[n]? = some (.lst xs)) : seqD M (.ref n) = some xs := by simp only [seqD, h]
theorem idxD_of {M : Mem} {x d : D} {xs : List D} {j : Int} {k : D → Prop} (h : seqD M x = some xs) (e : L2.atI xs j = some d) (q : k d) : idxD M x (.int j) k := by
  cases x with
  | str z => cases h
  | _ => simp only [idxD, h, e]; exact q
theorem idxS_of {M : Mem} {z : Str} {c : Nat} {j : Int} {k : D → Prop} (h : z.length ≤ 16777216) (e : L2.atI z.cps.toList j = some c) (q : k (.str ⟨#[c]⟩)) : idxD M (.str z) (.int j) k := by
  simp only [idxD, e]
  exact ⟨h, q⟩
theorem numL_of {M : Mem} {n : Nat} {xs : List D} {k : Nat → List D → Prop} (h : M[n]? = some (.lst xs)) (q : k n xs) : numL M (.ref n) k := by simp only [numL, h]; exact q
theorem asSeq_of {M : Mem} {x : D} {xs : List D} {k : List D → Prop} (h : seqD M x = some xs) (q : k xs) : asSeq M x k := by simp only [asSeq, h]; exact q
theorem len_of {rp : PyData → Str} {M : Mem} {x : D} {xs : List D} {k : D → Prop} (hx : ∀ z, x ≠ .str z) (h : seqD M x = some xs) (q : k (.int xs.length)) : biD rp .len [x] M k := by
  cases x with
  | str z => exact absurd rfl (hx _)
  | ref n =>
    simp only [seqD] at h
    split at h
    · rename_i ys hm
      cases h
      simp only [biD, hm]
      exact q
    · cases h
  | _ => simp only [biD, h]; exact q
theorem set_get {M : Mem} {n : Nat} {v w : MO} (h : M[n]? = some w) : (M.set n v)[n]? = some v := List.getElem?_set_self (List.getElem?_eq_some_iff.mp h).1
theorem set_set' {M : Mem} {n : Nat} {v w : MO} : (M.set n v).set n w = M.set n w := List.set_set ..
theorem seqD_set {M : Mem} {n : Nat} {v : MO} {x : D} (h : x ≠ .ref n) : seqD (M.set n v) x = seqD M x := by
  cases x with
  | ref k =>
    have hk : n ≠ k := fun z => h (by rw [z])
    simp only [seqD, List.getElem?_set_ne hk]
  | _ => rfl
theorem atI_nat {xs : List D} {i : Int} (h0 : 0 ≤ i) (h1 : i < xs.length) : ∃ d ∈ xs, L2.atI xs i = some d := by
  have hk : i.toNat < xs.length := by omega
  refine ⟨xs[i.toNat], List.getElem_mem hk, ?_⟩
  unfold L2.atI L2.ixN
  rw [if_pos h0, if_pos h1]
  exact List.getElem?_eq_getElem hk
theorem seqD_str {M : Mem} {x : D} {xs : List D} (h : seqD M x = some xs) : ∀ z, x ≠ .str z := fun z e => by rw [e] at h; cases h
theorem forD_nil {b : D → Dst → Option Dst} {body : TSD} {stay : Mem → Prop} {E : DE} {δ : Dst} {M : Mem} (h1 : stay M) (h2 : E.nx δ M) : forD b body stay E [] δ M := ⟨h1, h2⟩
theorem rngL_succ (lo : Int) (n : Nat) : rngL lo (n + 1) = .int lo :: rngL (lo + 1) n := by
  unfold rngL
  rw [List.range_succ_eq_map, List.map_cons, List.map_map]
  congr 1
  · simp
  · refine List.map_congr_left fun i _ => ?_
    show D.int (lo + ((i + 1 : Nat) : Int)) = D.int (lo + 1 + (i : Int))
    congr 1
    omega
theorem intsD_map : ∀ ns : List Int, intsD (ns.map D.int) = some ns
  | [] => rfl
  | n :: ns => by simp only [List.map_cons, intsD, intsD_map ns]
theorem cutL_ints (ns : List Int) (l h : Option Int) : ∃ ms : List Int, cutL (ns.map D.int) l h = ms.map D.int := by
  unfold cutL
  rw [← List.map_drop, ← List.map_take]
  exact ⟨_, rfl⟩
theorem atI_ints {ns : List Int} {k : Nat} (h : k < ns.length) : L2.atI (ns.map D.int) (k : Int) = some (.int ns[k]) := by
  unfold L2.atI L2.ixN
  rw [if_pos (by omega), if_pos (by rw [List.length_map]; omega)]
  show (ns.map D.int)[(k : Int).toNat]? = _
  rw [Int.toNat_natCast, List.getElem?_map, List.getElem?_eq_getElem h]
  rfl
theorem b2i_le (b : Bool) : -18446744073709551616 < PyProof.Rows.b2i b ∧ PyProof.Rows.b2i b < 18446744073709551616 := by cases b <;> decide
theorem blsD_map : ∀ bs : List Bool, blsD (bs.map D.bl) = some bs
  | [] => rfl
  | b :: bs => by simp only [List.map_cons, blsD, blsD_map bs]
theorem blsD_rep (n : Nat) (b : Bool) : blsD (List.replicate n (.bl b)) = some (List.replicate n b) := by
  have := blsD_map (List.replicate n b)
  rwa [List.map_replicate] at this
theorem all_rep (n : Nat) : (List.replicate n true).all id = true := by simp
theorem iteT {c : Prop} [Decidable c] {A B : Prop} (h : c) (a : A) : if c then A else B := by rw [if_pos h]; exact a
theorem iteF {c : Prop} [Decidable c] {A B : Prop} (h : ¬ c) (b : B) : if c then A else B := by rw [if_neg h]; exact b
end AA
/-! AA16: lists and tuples of whole numbers as data; filters of ranges. -/
namespace AA
open PySem PySem.Spec
theorem lstD_ref {M : Mem} {n : Nat} {xs : List D} (h : M[n]? = some (.lst xs)) : lstD M (.ref n) = some xs := by simp only [lstD, h]
theorem pds_ints : ∀ ns : List Int, pds (ns.map D.int) = some (ns.map PyData.int)
  | [] => rfl
  | n :: ns => by simp only [List.map_cons, pds, pd, pds_ints ns]
theorem lay_ints : ∀ ns : List Int, PyData.canLayAll0 (ns.map PyData.int) = true
  | [] => rfl
  | n :: ns => by simp only [List.map_cons, PyData.canLayAll0, PyData.canLay0, lay_ints ns, Bool.and_self]
theorem deep_ints : ∀ ns : List Int, PyData.depthAll (ns.map PyData.int) ≤ 1
  | [] => by simp [PyData.depthAll]
  | n :: ns => by
    have := deep_ints ns
    simp only [List.map_cons, PyData.depthAll, PyData.depth]
    omega
theorem shaped_ints (ns : List Int) : SeqAt.shaped (.list (ns.map PyData.int)) = true := by
  have := deep_ints ns
  unfold SeqAt.shaped
  rw [Bool.and_eq_true]
  refine ⟨by simp only [PyData.canLay0]; exact lay_ints ns, decide_eq_true ?_⟩
  simp only [PyData.depth]
  omega
theorem shaped_tints (ns : List Int) : SeqAt.shaped (.tuple (ns.map PyData.int)) = true := by
  have := deep_ints ns
  unfold SeqAt.shaped
  rw [Bool.and_eq_true]
  refine ⟨by simp only [PyData.canLay0]; exact lay_ints ns, decide_eq_true ?_⟩
  simp only [PyData.depth]
  omega
theorem eqv_ints : ∀ ns ms : List Int, PyData.eqvAll (ns.map PyData.int) (ms.map PyData.int) = decide (ns = ms)
  | [], [] => rfl
  | [], _ :: _ => rfl
  | _ :: _, [] => rfl
  | n :: ns, m :: ms => by
    simp only [List.map_cons, PyData.eqvAll, PyData.eqv, eqv_ints ns ms, List.cons.injEq]
    by_cases h : n = m <;> simp [h]
theorem pd_ints (ns : List Int) : pd (.lst (ns.map D.int)) = some (.list (ns.map PyData.int)) := by simp only [pd, pds_ints]
theorem pd_tints (ns : List Int) : pd (.tup (ns.map D.int)) = some (.tuple (ns.map PyData.int)) := by simp only [pd, pds_ints]
theorem eqv_lst (ns ms : List Int) : PyData.eqv (.list (ns.map .int)) (.list (ms.map .int)) = decide (ns = ms) := by simp only [PyData.eqv, eqv_ints]
theorem eqv_tup (ns ms : List Int) : PyData.eqv (.tuple (ns.map .int)) (.tuple (ms.map .int)) = decide (ns = ms) := by simp only [PyData.eqv, eqv_ints]
theorem eqv_int (i j : Int) : PyData.eqv (.int i) (.int j) = decide (i = j) := by simp only [PyData.eqv]; rfl
/-- the least and the next of a filtered range -/
theorem filt_head {n a : Nat} {p : Nat → Bool} {t : List Nat} (h : (List.range n).filter p = a :: t) : a < n ∧ p a = true ∧ (∀ y, y < a → p y = false) := by
  have hm : a ∈ (List.range n).filter p := by rw [h]; exact List.mem_cons_self
  have hs : List.Pairwise (· < ·) ((List.range n).filter p) := List.Pairwise.filter _ List.pairwise_lt_range
  rw [h] at hs
  rw [List.mem_filter, List.mem_range] at hm
  refine ⟨hm.1, hm.2, fun y hy => ?_⟩
  cases e : p y with
  | false => rfl
  | true =>
    have hy2 : y ∈ (List.range n).filter p := List.mem_filter.mpr ⟨List.mem_range.mpr (by omega), e⟩
    rw [h] at hy2
    rcases List.mem_cons.mp hy2 with z | z
    · omega
    · have := List.rel_of_pairwise_cons hs z
      omega
theorem filt_next {n a b : Nat} {p : Nat → Bool} {t : List Nat} (h : (List.range n).filter p = a :: b :: t) : a < b ∧ b < n ∧ p b = true ∧ (∀ y, a < y → y < b → p y = false) := by
  have hm : b ∈ (List.range n).filter p := by rw [h]; exact List.mem_cons_of_mem _ List.mem_cons_self
  have hs : List.Pairwise (· < ·) ((List.range n).filter p) := List.Pairwise.filter _ List.pairwise_lt_range
  rw [h] at hs
  rw [List.mem_filter, List.mem_range] at hm
  refine ⟨List.rel_of_pairwise_cons hs List.mem_cons_self, hm.1, hm.2, fun y hy hyb => ?_⟩
  cases e : p y with
  | false => rfl
  | true =>
    have hy2 : y ∈ (List.range n).filter p := List.mem_filter.mpr ⟨List.mem_range.mpr (by omega), e⟩
    rw [h] at hy2
    rcases List.mem_cons.mp hy2 with z | z
    · omega
    · rcases List.mem_cons.mp z with z | z
      · omega
      · have := List.rel_of_pairwise_cons (List.Pairwise.of_cons hs) z
        omega
end AA
/-! AA17: what may be shown. -/
namespace AA
open PySem PySem.Spec
/-! ### what may be shown -/
def big : Int := 10 ^ 40
theorem big_nat {i : Int} (h0 : -big ≤ i) (h1 : i ≤ big) : i.natAbs < 10 ^ 41 := by
  unfold big at h0 h1
  omega
theorem shown_len {i : Int} (h0 : -big ≤ i) (h1 : i ≤ big) : (PyData.shown (.int i)).length ≤ 42 := by
  simp only [PyData.shown]
  rw [ofString_length]
  exact int_text_length_le10 (by decide) (big_nat h0 h1)
theorem show_able {i : Int} (h0 : -big ≤ i) (h1 : i ≤ big) : PyData.showable (.int i) = true := by
  simp only [PyData.showable]
  refine decide_eq_true (Nat.lt_of_lt_of_le (log2_lt (k := 200) ?_ (by decide)) (by decide))
  exact Nat.lt_of_lt_of_le (big_nat h0 h1) (by decide)
theorem repr_int {i : Int} (h0 : -big ≤ i) (h1 : i ≤ big) : ReprOk (.int i) := ⟨show_able h0 h1, rfl, by simp [PyData.depth], Nat.le_trans (shown_len h0 h1) (by decide)⟩
theorem show_all : ∀ {ns : List Int}, (∀ n ∈ ns, -big ≤ n ∧ n ≤ big) → PyData.showableAll (ns.map PyData.int) = true
  | [], _ => rfl
  | n :: ns, h => by
    simp only [List.map_cons, PyData.showableAll, Bool.and_eq_true]
    exact ⟨show_able (h n List.mem_cons_self).1 (h n List.mem_cons_self).2, show_all fun m hm => h m (List.mem_cons_of_mem _ hm)⟩
theorem nod_all : ∀ ns : List Int, PyData.hasDictAll (ns.map PyData.int) = false
  | [] => rfl
  | n :: ns => by simp only [List.map_cons, PyData.hasDictAll, PyData.hasDict, nod_all ns, Bool.or_self]
theorem piled_ints : ∀ {ns : List Int}, (∀ n ∈ ns, -big ≤ n ∧ n ≤ big) → piled (PyData.shownAll (ns.map PyData.int)) ≤ 44 * ns.length
  | [], _ => by simp [PyData.shownAll, piled_nil]
  | n :: ns, h => by
    simp only [List.map_cons, PyData.shownAll, piled_cons, List.length_cons]
    have h1 := shown_len (h n List.mem_cons_self).1 (h n List.mem_cons_self).2
    have h2 := piled_ints (ns := ns) fun m hm => h m (List.mem_cons_of_mem _ hm)
    omega
theorem repr_ints {ns : List Int} (hn : ns ≠ []) (hl : ns.length ≤ 1000) (h : ∀ n ∈ ns, -big ≤ n ∧ n ≤ big) : ReprOk (.tuple (ns.map PyData.int)) := by
  have dp := deep_ints ns
  refine ⟨by simp only [PyData.showable]; exact show_all h, by simp only [PyData.hasDict]; exact nod_all ns, by simp only [PyData.depth]; omega, ?_⟩
  have e : PyData.shown (.tuple (ns.map PyData.int)) = tupleText (PyData.shownAll (ns.map PyData.int)) := by simp only [PyData.shown]
  rw [e]
  have ne : PyData.shownAll (ns.map PyData.int) ≠ [] := by
    cases ns with
    | nil => exact absurd rfl hn
    | cons n ns => simp [PyData.shownAll]
  have l := join_length_add _ ne
  have p := piled_ints h
  unfold tupleText
  rw [strLen_append, strLen_append]
  have e1 : (("(" : String) : Str).length = 1 := rfl
  have e2 : ((if (PyData.shownAll (ns.map PyData.int)).length == 1 then ",)" else ")" : String) : Str).length ≤ 2 := by split <;> decide
  omega
theorem big_le {i : Int} (h0 : -1000000 ≤ i) (h1 : i ≤ 1000000) : -big ≤ i ∧ i ≤ big := by unfold big; omega
theorem rep_non : ReprOk .none := ⟨rfl, rfl, by decide, by decide +kernel⟩
theorem rep_bl (b : Bool) : ReprOk (.bool b) := by cases b <;> exact ⟨rfl, rfl, by decide, by decide +kernel⟩
theorem rep_small {i : Int} (h0 : -1000000 ≤ i) (h1 : i ≤ 1000000) : ReprOk (.int i) := repr_int (big_le h0 h1).1 (big_le h0 h1).2
theorem numL_last {M : Mem} {xs : List D} {k : Nat → List D → Prop} (q : k M.length xs) : numL (M ++ [.lst xs]) (.ref M.length) k := numL_of (by simp) q
theorem last_get (M : Mem) (o : MO) : (M ++ [o])[M.length]? = some o := by simp
/-! ### comprehensions, item by item -/
theorem comp_map {Γ : Tab} {e : E} {t : T} {δ : Dst} {Q : List D → Mem → Prop} {M : Mem} {stay : Mem → Prop} (hs : stay M) (f : D → D) : ∀ (xs acc : List D), (∀ x ∈ xs, ∃ δ', bindT t x δ = some δ' ∧ ∀ (R : DK) (X : XD), R (f x) M → wpE Γ e δ' M R X) → acc.length + xs.length ≤ 16777216 → Q (acc ++ xs.map f) M →
    compD (bindT t) (wpC Γ .no) (wpE Γ e) stay δ Q xs acc M
  | [], acc, _, _, h => ⟨hs, by simpa using h⟩
  | x :: xs, acc, hx, hl, h => by
    obtain ⟨δ', h1, h2⟩ := hx x List.mem_cons_self
    rw [List.length_cons] at hl
    refine ⟨hs, ?_⟩
    unfold bndD
    rw [h1]
    show wpC Γ .no δ' M _ _
    simp only [wpC]
    rw [if_pos trivial]
    refine h2 _ _ ⟨by omega, ?_⟩
    refine comp_map hs f xs (acc ++ [f x]) (fun y hy => hx y (List.mem_cons_of_mem _ hy)) (by rw [List.length_append]; simp; omega) ?_
    rw [List.append_assoc]
    exact h
theorem comp_filt {Γ : Tab} {e c : E} {t : T} {δ : Dst} {Q : List D → Mem → Prop} {M : Mem} {stay : Mem → Prop} (hs : stay M) (f : D → D) (p : D → Bool) : ∀ (xs acc : List D), (∀ x ∈ xs, ∃ δ', bindT t x δ = some δ' ∧ (∀ (R : Bool → Mem → Prop) (X : XD), R (p x) M → wpT Γ c δ' M R X) ∧ ∀ (R : DK) (X : XD), R (f x) M → wpE Γ e δ' M R X) → acc.length + xs.length ≤ 16777216 → Q (acc ++ (xs.filter p).map f) M →
    compD (bindT t) (wpC Γ (.so c)) (wpE Γ e) stay δ Q xs acc M
  | [], acc, _, _, h => ⟨hs, by simpa using h⟩
  | x :: xs, acc, hx, hl, h => by
    obtain ⟨δ', h1, h2, h3⟩ := hx x List.mem_cons_self
    rw [List.length_cons] at hl
    refine ⟨hs, ?_⟩
    unfold bndD
    rw [h1]
    show wpC Γ (.so c) δ' M _ _
    simp only [wpC]
    refine h2 _ _ ?_
    cases e1 : p x with
    | true =>
      rw [if_pos rfl]
      refine h3 _ _ ⟨by omega, ?_⟩
      refine comp_filt hs f p xs (acc ++ [f x]) (fun y hy => hx y (List.mem_cons_of_mem _ hy)) (by rw [List.length_append]; simp; omega) ?_
      rw [List.filter_cons_of_pos e1, List.map_cons] at h
      rw [List.append_assoc]
      exact h
    | false =>
      rw [if_neg Bool.false_ne_true]
      refine comp_filt hs f p xs acc (fun y hy => hx y (List.mem_cons_of_mem _ hy)) (by omega) ?_
      rw [List.filter_cons_of_neg (by rw [e1]; exact Bool.false_ne_true)] at h
      exact h
theorem mem_rngL {lo : Int} {n : Nat} {x : D} (h : x ∈ rngL lo n) : ∃ o : Int, x = .int o ∧ lo ≤ o ∧ o < lo + n := by
  unfold rngL at h
  obtain ⟨i, hi, rfl⟩ := List.mem_map.mp h
  rw [List.mem_range] at hi
  exact ⟨_, rfl, by omega, by omega⟩
def restS : Ss → Ss | .cons _ r => r | r => r
theorem ne_int {i j : Int} (h : i ≠ j) : (!PyData.eqv (.int i) (.int j)) = true := by simp [PyData.eqv, h]
theorem ne_int' {i j : Int} (h : i = j) : ¬ (!PyData.eqv (.int i) (.int j)) = true := by simp [PyData.eqv, h]
end AA
/-! AA18: names, numbers and lines of a text; what stays in memory; short tuples shown. -/
namespace AA
open PySem PySem.Spec TL
/-! ### what stays -/
/-- all that stood stands, but what S names -/
structure Stays (S : List Nat) (M M' : Mem) : Prop where
  len : M.length ≤ M'.length
  at_ : ∀ k, k < M.length → k ∉ S → M'[k]? = M[k]?
theorem Stays.refl (S : List Nat) (M : Mem) : Stays S M M := ⟨Nat.le_refl _, fun _ _ _ => rfl⟩
theorem Stays.trans {S : List Nat} {M M1 M2 : Mem} (h : Stays S M M1) (g : Stays S M1 M2) : Stays S M M2 :=
  ⟨Nat.le_trans h.len g.len, fun k hk hs => (g.at_ k (Nat.lt_of_lt_of_le hk h.len) hs).trans (h.at_ k hk hs)⟩
theorem Stays.mono {S T : List Nat} {M M' : Mem} (h : Stays S M M') (hs : ∀ k, k < M.length → k ∈ S → k ∈ T) : Stays T M M' := ⟨h.len, fun k hk ht => h.at_ k hk fun z => ht (hs k hk z)⟩
theorem Stays.app {S : List Nat} {M M1 : Mem} (h : Stays S M M1) (os : List MO) : Stays S M (M1 ++ os) :=
  h.trans ⟨by rw [List.length_append]; omega, fun k hk _ => List.getElem?_append_left hk⟩
theorem Stays.set {S : List Nat} {M M1 : Mem} (h : Stays S M M1) {n : Nat} (hn : n ∈ S ∨ M.length ≤ n) (o : MO) : Stays S M (M1.set n o) :=
  ⟨by rw [List.length_set]; exact h.len, fun k hk hs => by
    have : n ≠ k := fun z => by
      subst z
      rcases hn with hn | hn
      · exact hs hn
      · omega
    rw [List.getElem?_set_ne this]; exact h.at_ k hk hs⟩
theorem Stays.get {S : List Nat} {M M' : Mem} (h : Stays S M M') {k : Nat} {o : MO} (e : M[k]? = some o) (hs : k ∉ S) : M'[k]? = some o := by rw [h.at_ k (List.getElem?_eq_some_iff.mp e).1 hs]; exact e
theorem Stays.get0 {M M' : Mem} (h : Stays [] M M') {k : Nat} {o : MO} (e : M[k]? = some o) : M'[k]? = some o := h.get e (by simp)
/-! ### numbers -/
/-- the text of a number -/
def numS (n : Nat) : Str := Str.ofString (toString ((n : Nat) : Int))
theorem tl_numS (n : Nat) : tl (numS n) = TL.numL n := tl_num n
theorem numS_int {n : Nat} (h : n < 10 ^ 9) : PySem.intText? (numS n) = some (n : Int) := int_num (Nat.le_trans (numL_len (by decide) h) (by decide))
theorem numS_len {n : Nat} (h : n < 10 ^ 9) : (numS n).length ≤ 9 := by rw [len_tl, tl_numS]; exact numL_len (by decide) h
theorem numS_ne (n : Nat) : tl (numS n) ≠ [] := by rw [tl_numS]; exact numL_ne n
theorem numS_free {n s : Nat} (h : s < 48 ∨ 57 < s) : s ∉ tl (numS n) := by rw [tl_numS]; exact numL_free h
theorem numS_dig {n c : Nat} (h : c ∈ tl (numS n)) : 48 ≤ c ∧ c ≤ 57 := by
  rw [tl_numS] at h
  exact numL_digits n c h
theorem toStr_numS {i : Int} (h : 0 ≤ i) : (Str.ofString (toString i) : Str) = numS i.toNat := by
  unfold numS
  rw [show ((i.toNat : Nat) : Int) = i by omega]
/-! ### signs -/
def isL (c : Nat) : Bool := decide (97 ≤ c ∧ c ≤ 122)
def isF (c : Nat) : Bool := decide (48 ≤ c ∧ c ≤ 57)
theorem in_sign (z : Str) (c : Nat) : (!(Builtin.Str.occurrences z ⟨#[c]⟩ 0 z.length 1).isEmpty) = decide (c ∈ tl z) := PySem.StrLaws.found_one z c
theorem tl_letters : tl ("abcdefghijklmnopqrstuvwxyz" : Str) = (List.range 26).map (97 + ·) := by decide +kernel
theorem tl_figures : tl ("0123456789" : Str) = (List.range 10).map (48 + ·) := by decide +kernel
theorem mem_from {a n c : Nat} : c ∈ (List.range n).map (a + ·) ↔ a ≤ c ∧ c < a + n := by
  rw [List.mem_map]
  constructor
  · rintro ⟨k, hk, rfl⟩
    rw [List.mem_range] at hk
    omega
  · rintro ⟨h1, h2⟩
    exact ⟨c - a, List.mem_range.mpr (by omega), by omega⟩
theorem in_letters (c : Nat) : (!(Builtin.Str.occurrences ("abcdefghijklmnopqrstuvwxyz" : Str) ⟨#[c]⟩ 0 ("abcdefghijklmnopqrstuvwxyz" : Str).length 1).isEmpty) = isL c := by
  rw [in_sign, tl_letters]
  unfold isL
  rw [decide_eq_decide, mem_from]
  omega
theorem in_figures (c : Nat) : (!(Builtin.Str.occurrences ("0123456789" : Str) ⟨#[c]⟩ 0 ("0123456789" : Str).length 1).isEmpty) = isF c := by
  rw [in_sign, tl_figures]
  unfold isF
  rw [decide_eq_decide, mem_from]
  omega
/-! ### names -/
def nameB (l : List Nat) : Bool := (match l with | c :: _ => isL c | [] => false) && l.all (fun c => isL c || isF c) && decide (l.length ≤ 8)
def NameOk (w : Str) : Prop := nameB (tl w) = true
instance (w : Str) : Decidable (NameOk w) := by unfold NameOk; infer_instance
theorem NameOk.all {w : Str} (h : NameOk w) : ∀ c ∈ tl w, (isL c || isF c) = true := by
  simp only [NameOk, nameB, Bool.and_eq_true, List.all_eq_true] at h
  exact h.1.2
theorem NameOk.len {w : Str} (h : NameOk w) : w.length ≤ 8 := by
  simp only [NameOk, nameB, Bool.and_eq_true, decide_eq_true_eq] at h
  rw [len_tl]; exact h.2
theorem NameOk.head {w : Str} (h : NameOk w) : ∃ c r, tl w = c :: r ∧ isL c = true := by
  simp only [NameOk, nameB, Bool.and_eq_true] at h
  cases e : tl w with
  | nil => rw [e] at h; exact absurd h.1.1 (by decide)
  | cons c r => rw [e] at h; exact ⟨c, r, rfl, h.1.1⟩
theorem NameOk.free {w : Str} (h : NameOk w) {s : Nat} (hs : s < 48) : s ∉ tl w := fun hm => by
  have := h.all s hm
  simp only [isL, isF, Bool.or_eq_true, decide_eq_true_eq] at this
  omega
theorem NameOk.one {c : Nat} (h : isL c = true) : NameOk ⟨#[c]⟩ := by
  show nameB [c] = true
  simp [nameB, h]
theorem NameOk.snoc {w : Str} (h : NameOk w) (hl : w.length < 8) {c : Nat} (hc : (isL c || isF c) = true) : NameOk (w ++ ⟨#[c]⟩) := by
  obtain ⟨a, r, e, ha⟩ := h.head
  have h2 := h.all
  rw [len_tl] at hl
  have et : tl (w ++ ⟨#[c]⟩) = tl w ++ [c] := by rw [tl_append]
  unfold NameOk
  rw [et]
  rw [e] at h2 hl ⊢
  simp only [nameB, List.cons_append, Bool.and_eq_true, decide_eq_true_eq, List.all_eq_true]
  refine ⟨⟨ha, fun x hx => ?_⟩, ?_⟩
  · rcases List.mem_append.mp (show x ∈ (a :: r) ++ [c] from hx) with z | z
    · exact h2 x z
    · rw [List.mem_singleton.mp z]; exact hc
  · rw [List.length_cons] at hl ⊢
    rw [List.length_append]
    show r.length + 1 + 1 ≤ 8
    omega
/-! ### lines -/
def lineS (ws : List Str) : Str := Str.join " " ws
def textS (ls : List Str) : Str := Str.join "\n" ls
theorem split_line {ws : List Str} (h : ws ≠ []) (hf : ∀ w ∈ ws, 32 ∉ tl w) : Txt.split (lineS ws) " " = ws := by
  unfold lineS
  rw [← join_eq]
  exact split_join (s := 32) (S := []) (by decide +kernel) (by decide +kernel) h hf
theorem split_text {ls : List Str} (h : ls ≠ []) (hf : ∀ w ∈ ls, 10 ∉ tl w) : Txt.split (textS ls) "\n" = ls := by
  unfold textS
  rw [← join_eq]
  exact split_join (s := 10) (S := []) (by decide +kernel) (by decide +kernel) h hf
theorem split_none {w y : Str} {s : Nat} {S : List Nat} (ey : tl y = s :: S) (hk : y.cps.all (· < 256) = true) (hf : s ∉ tl w) : Txt.split w y = [w] := by
  have := split_join (y := y) (parts := [w]) ey hk (by simp) (fun p hp => by rw [List.mem_singleton.mp hp]; exact hf)
  rw [join_eq] at this
  exact this
theorem tl_line (ws : List Str) : tl (lineS ws) = joinL [32] (ws.map tl) := by
  unfold lineS
  rw [tl_join]
  rfl
theorem tl_text (ls : List Str) : tl (textS ls) = joinL [10] (ls.map tl) := by
  unfold textS
  rw [tl_join]
  rfl
theorem joinL_free {s : Nat} {S : List Nat} (hS : s ∉ S) : ∀ {ps : List (List Nat)}, (∀ p ∈ ps, s ∉ p) → s ∉ joinL S ps
  | [], _ => by simp [joinL]
  | [p], h => h p (List.mem_singleton.mpr rfl)
  | p :: q :: r, h => by
    show s ∉ p ++ (S ++ joinL S (q :: r))
    rw [List.mem_append, List.mem_append]
    rintro (z | z | z)
    · exact h p List.mem_cons_self z
    · exact hS z
    · exact joinL_free hS (fun x hx => h x (List.mem_cons_of_mem _ hx)) z
theorem line_free {ws : List Str} (h : ∀ w ∈ ws, 10 ∉ tl w) : 10 ∉ tl (lineS ws) := by
  rw [tl_line]
  refine joinL_free (by decide) fun p hp => ?_
  obtain ⟨w, hw, rfl⟩ := List.mem_map.mp hp
  exact h w hw
theorem joinL_len {S : List Nat} {k : Nat} : ∀ {ps : List (List Nat)}, (∀ p ∈ ps, p.length ≤ k) → (joinL S ps).length ≤ ps.length * (k + S.length)
  | [], _ => by simp [joinL]
  | [p], h => by
    have := h p (List.mem_singleton.mpr rfl)
    show p.length ≤ 1 * (k + S.length)
    omega
  | p :: q :: r, h => by
    have a := h p List.mem_cons_self
    have b := joinL_len (S := S) (ps := q :: r) (fun x hx => h x (List.mem_cons_of_mem _ hx))
    show (p ++ (S ++ joinL S (q :: r))).length ≤ ((q :: r).length + 1) * (k + S.length)
    rw [List.length_append, List.length_append, Nat.succ_mul]
    omega
theorem line_len {ws : List Str} {k : Nat} (h : ∀ w ∈ ws, w.length ≤ k) : (lineS ws).length ≤ ws.length * (k + 1) := by
  rw [len_tl, tl_line]
  have := joinL_len (S := [32]) (k := k) (ps := ws.map tl) fun p hp => by
    obtain ⟨w, hw, rfl⟩ := List.mem_map.mp hp
    rw [← len_tl]; exact h w hw
  rw [List.length_map] at this
  exact this
theorem text_len {ws : List Str} {k : Nat} (h : ∀ w ∈ ws, w.length ≤ k) : (textS ws).length ≤ ws.length * (k + 1) := by
  rw [len_tl, tl_text]
  have := joinL_len (S := [10]) (k := k) (ps := ws.map tl) fun p hp => by
    obtain ⟨w, hw, rfl⟩ := List.mem_map.mp hp
    rw [← len_tl]; exact h w hw
  rw [List.length_map] at this
  exact this
/-! ### what may be shown: short tuples -/
def Atom (p : PyData) : Prop := p.showable = true ∧ p.hasDict = false ∧ p.depth ≤ 1 ∧ p.shown.length ≤ 100
theorem atom_int {i : Int} (h0 : -big ≤ i) (h1 : i ≤ big) : Atom (.int i) := ⟨show_able h0 h1, rfl, by simp [PyData.depth], Nat.le_trans (shown_len h0 h1) (by decide)⟩
theorem atom_none : Atom .none := ⟨rfl, rfl, by simp [PyData.depth], by decide +kernel⟩
theorem atom_str {w : Str} (h1 : ∀ c ∈ tl w, c < 16 ^ 8) (h2 : w.length ≤ 9) : Atom (.str w) := by
  refine ⟨rfl, rfl, by simp [PyData.depth], ?_⟩
  have := PySem.StrLaws.reprText_len w h1
  simp only [PyData.shown]
  omega
theorem NameOk.atom {w : Str} (h : NameOk w) : Atom (.str w) := atom_str (fun c hc => by
  have := h.all c hc
  simp only [isL, isF, Bool.or_eq_true, decide_eq_true_eq] at this
  omega) (by have := h.len; omega)
theorem Atom.ok {p : PyData} (h : Atom p) : ReprOk p := ⟨h.1, h.2.1, by have := h.2.2.1; omega, by have := h.2.2.2; omega⟩
theorem atoms_all : ∀ {ps : List PyData}, (∀ p ∈ ps, Atom p) → PyData.showableAll ps = true ∧ PyData.hasDictAll ps = false ∧ PyData.depthAll ps ≤ 1 ∧ piled (PyData.shownAll ps) ≤ 102 * ps.length
  | [], _ => ⟨rfl, rfl, by simp [PyData.depthAll], by simp [PyData.shownAll, piled_nil]⟩
  | p :: ps, h => by
    obtain ⟨a1, a2, a3, a4⟩ := h p List.mem_cons_self
    obtain ⟨b1, b2, b3, b4⟩ := atoms_all (ps := ps) fun q hq => h q (List.mem_cons_of_mem _ hq)
    refine ⟨by simp only [PyData.showableAll, a1, b1, Bool.and_self], by simp only [PyData.hasDictAll, a2, b2, Bool.or_self], ?_, ?_⟩
    · simp only [PyData.depthAll]; omega
    · simp only [PyData.shownAll, piled_cons, List.length_cons]; omega
theorem repr_atoms {ps : List PyData} (hn : ps ≠ []) (hl : ps.length ≤ 1000) (h : ∀ p ∈ ps, Atom p) : ReprOk (.tuple ps) := by
  obtain ⟨b1, b2, b3, b4⟩ := atoms_all h
  refine ⟨by simp only [PyData.showable]; exact b1, by simp only [PyData.hasDict]; exact b2, by simp only [PyData.depth]; omega, ?_⟩
  have e : PyData.shown (.tuple ps) = tupleText (PyData.shownAll ps) := by simp only [PyData.shown]
  rw [e]
  have ne : PyData.shownAll ps ≠ [] := by
    cases ps with
    | nil => exact absurd rfl hn
    | cons n ns => simp [PyData.shownAll]
  have l := join_length_add _ ne
  unfold tupleText
  rw [strLen_append, strLen_append]
  have e1 : (("(" : String) : Str).length = 1 := rfl
  have e2 : ((if (PyData.shownAll ps).length == 1 then ",)" else ")" : String) : Str).length ≤ 2 := by split <;> decide
  omega
/-! ### signs of a text, one by one -/
theorem atI_mem {l : List Nat} {i : Int} (h0 : 0 ≤ i) (h1 : i < l.length) : ∃ c ∈ l, L2.atI l i = some c := by
  have hk : i.toNat < l.length := by omega
  refine ⟨l[i.toNat], List.getElem_mem hk, ?_⟩
  unfold L2.atI L2.ixN
  rw [if_pos h0, if_pos h1]
  exact List.getElem?_eq_getElem hk
theorem strsD_map : ∀ ss : List Str, strsD (ss.map D.str) = some ss
  | [] => rfl
  | s :: ss => by simp only [List.map_cons, strsD, strsD_map ss]
/-- all([.. for sign in a text]) -/
theorem comp_signs {Γ : Tab} {e : E} {t : T} {δ : Dst} {Q : List D → Mem → Prop} {M : Mem} (p : Nat → Bool) (w : Str) (hw : w.length ≤ 1000) (hp : ∀ c ∈ tl w, p c = true)
    (he : ∀ c, ∃ δ', bindT t (.str ⟨#[c]⟩) δ = some δ' ∧ ∀ (R : DK) (X : XD), R (.bl (p c)) M → wpE Γ e δ' M R X) (h : Q (List.replicate w.length (.bl true)) M) :
    compD (bindT t) (wpC Γ .no) (wpE Γ e) (fun _ => True) δ Q (chrsD w) [] M := by
  refine comp_map (f := fun d => match d with | .str z => .bl (p (z.cps.toList.headD 0)) | _ => .non) trivial (chrsD w) [] (fun x hx => ?_) ?_ ?_
  · unfold chrsD at hx
    obtain ⟨c, hc, rfl⟩ := List.mem_map.mp hx
    exact he c
  · unfold chrsD
    rw [List.length_map]
    show 0 + (tl w).length ≤ _
    rw [← len_tl]
    omega
  · have e1 : ([] : List D) ++ (chrsD w).map (fun d => match d with | .str z => .bl (p (z.cps.toList.headD 0)) | _ => .non) = List.replicate w.length (.bl true) := by
      rw [List.nil_append]
      unfold chrsD
      rw [List.map_map, len_tl, List.eq_replicate_iff]
      refine ⟨by rw [List.length_map], fun b hb => ?_⟩
      obtain ⟨c, hc, rfl⟩ := List.mem_map.mp hb
      show D.bl (p c) = _
      rw [hp c hc]
    rw [e1]
    exact h
end AA
/-! K10m: the mathematics: rests put together. -/
namespace K10
/-- d | lcm a b: d | lcm (gcd d a) (gcd d b) -/
theorem dvd_lcm_gcds {d a b : Nat} (hd : 0 < d) (h : d ∣ Nat.lcm a b) : d ∣ Nat.lcm (Nat.gcd d a) (Nat.gcd d b) := by
  have hg : 0 < Nat.gcd d (Nat.gcd a b) := Nat.gcd_pos_of_pos_left _ hd
  have e1 : Nat.gcd (Nat.gcd d a) (Nat.gcd d b) = Nat.gcd d (Nat.gcd a b) := by
    apply Nat.dvd_antisymm
    · refine Nat.dvd_gcd (Nat.dvd_trans (Nat.gcd_dvd_left _ _) (Nat.gcd_dvd_left _ _)) (Nat.dvd_gcd ?_ ?_)
      · exact Nat.dvd_trans (Nat.gcd_dvd_left _ _) (Nat.gcd_dvd_right _ _)
      · exact Nat.dvd_trans (Nat.gcd_dvd_right _ _) (Nat.gcd_dvd_right _ _)
    · refine Nat.dvd_gcd (Nat.dvd_gcd (Nat.gcd_dvd_left _ _) ?_) (Nat.dvd_gcd (Nat.gcd_dvd_left _ _) ?_)
      · exact Nat.dvd_trans (Nat.gcd_dvd_right _ _) (Nat.gcd_dvd_left _ _)
      · exact Nat.dvd_trans (Nat.gcd_dvd_right _ _) (Nat.gcd_dvd_right _ _)
  have big : d * Nat.gcd d (Nat.gcd a b) ∣ Nat.gcd d a * Nat.gcd d b := by
    have e3 : Nat.gcd d a * Nat.gcd d b = Nat.gcd (Nat.gcd d a * d) (Nat.gcd d a * b) := (Nat.gcd_mul_left _ _ _).symm
    have e4 : Nat.gcd d a * b = Nat.gcd (d * b) (a * b) := (Nat.gcd_mul_right _ _ _).symm
    rw [e3]
    refine Nat.dvd_gcd ?_ ?_
    · rw [Nat.mul_comm (Nat.gcd d a) d]
      refine Nat.mul_dvd_mul_left d (Nat.dvd_gcd (Nat.gcd_dvd_left _ _) ?_)
      exact Nat.dvd_trans (Nat.gcd_dvd_right _ _) (Nat.gcd_dvd_left _ _)
    · rw [e4]
      refine Nat.dvd_gcd (Nat.mul_dvd_mul_left d (Nat.dvd_trans (Nat.gcd_dvd_right _ _) (Nat.gcd_dvd_right _ _))) ?_
      have z : Nat.lcm a b * Nat.gcd a b = a * b := by rw [Nat.mul_comm]; exact Nat.gcd_mul_lcm a b
      rw [← z]
      exact Nat.mul_dvd_mul h (Nat.gcd_dvd_right _ _)
  have z2 : Nat.gcd (Nat.gcd d a) (Nat.gcd d b) * Nat.lcm (Nat.gcd d a) (Nat.gcd d b) = Nat.gcd d a * Nat.gcd d b := Nat.gcd_mul_lcm _ _
  rw [← z2, e1, Nat.mul_comm d] at big
  exact Nat.dvd_of_mul_dvd_mul_left hg big
/-- what divides both lcm and m divides y once gcd (a, m) and gcd (b, m) do -/
theorem gcd_lcm_dvd {a b m : Nat} {y : Int} (hm : 0 < m) (h1 : ((Nat.gcd a m : Nat) : Int) ∣ y) (h2 : ((Nat.gcd b m : Nat) : Int) ∣ y) : ((Nat.gcd (Nat.lcm a b) m : Nat) : Int) ∣ y := by
  have hd : 0 < Nat.gcd (Nat.lcm a b) m := Nat.gcd_pos_of_pos_right _ hm
  have k := dvd_lcm_gcds hd (Nat.gcd_dvd_left (Nat.lcm a b) m)
  have p1 : Nat.gcd (Nat.gcd (Nat.lcm a b) m) a ∣ y.natAbs := by
    refine Nat.dvd_trans (Nat.dvd_gcd (Nat.gcd_dvd_right _ _) ?_) (Int.ofNat_dvd_left.mp h1)
    exact Nat.dvd_trans (Nat.gcd_dvd_left _ _) (Nat.gcd_dvd_right _ _)
  have p2 : Nat.gcd (Nat.gcd (Nat.lcm a b) m) b ∣ y.natAbs := by
    refine Nat.dvd_trans (Nat.dvd_gcd (Nat.gcd_dvd_right _ _) ?_) (Int.ofNat_dvd_left.mp h2)
    exact Nat.dvd_trans (Nat.gcd_dvd_left _ _) (Nat.gcd_dvd_right _ _)
  exact Int.ofNat_dvd_left.mpr (Nat.dvd_trans k (Nat.lcm_dvd p1 p2))
/-- Euclid, a turn at a time -/
theorem gcd_turn {a b : Int} (ha : 0 < a) (hb : 0 < b) : Int.gcd b (a % b) = Int.gcd a b := by
  rw [Int.gcd_comm b, Int.gcd_comm a]
  have e : a % b = a - b * (a / b) := by have := Int.emod_add_mul_ediv a b; omega
  rw [e]
  simp [Int.gcd_comm]
theorem gcd_pos' {n m : Int} (hn : 1 ≤ n) : 0 < (Int.gcd n m : Int) := by
  have : 0 < Int.gcd n m := Int.gcd_pos_of_ne_zero_left _ (by omega)
  omega
theorem lcm_eq {n m m1 : Int} (hn : 1 ≤ n) (hm : 1 ≤ m) (e : m = (Int.gcd n m : Int) * m1) : (Int.lcm n m : Int) = n * m1 := by
  have g0 := gcd_pos' (m := m) hn
  have k : ((Int.gcd n m * Int.lcm n m : Nat) : Int) = ((n * m).natAbs : Int) := by rw [Int.gcd_mul_lcm, Int.natAbs_mul]
  rw [Int.natCast_mul, Int.natAbs_of_nonneg (Int.mul_nonneg (by omega) (by omega))] at k
  refine Int.eq_of_mul_eq_mul_left (a := (Int.gcd n m : Int)) (by omega) ?_
  rw [k]
  conv => lhs; rw [e]
  rw [← Int.mul_assoc, ← Int.mul_assoc, Int.mul_comm n]
/-- put_together is right -/
theorem put_math {n r m s i : Int} (hn : 1 ≤ n) (hm : 1 ≤ m) (h : (s - r) % (Int.gcd n m : Int) = 0) (hi : (n / (Int.gcd n m : Int) * i - 1) % (m / (Int.gcd n m : Int)) = 0) :
    n * (m / (Int.gcd n m : Int)) = (Int.lcm n m : Int) ∧ 0 ≤ (r + n * ((s - r) / (Int.gcd n m : Int) * i % (m / (Int.gcd n m : Int)))) % (n * (m / (Int.gcd n m : Int))) ∧
    (r + n * ((s - r) / (Int.gcd n m : Int) * i % (m / (Int.gcd n m : Int)))) % (n * (m / (Int.gcd n m : Int))) < n * (m / (Int.gcd n m : Int)) ∧
    ((r + n * ((s - r) / (Int.gcd n m : Int) * i % (m / (Int.gcd n m : Int)))) % (n * (m / (Int.gcd n m : Int))) - r) % n = 0 ∧
    ((r + n * ((s - r) / (Int.gcd n m : Int) * i % (m / (Int.gcd n m : Int)))) % (n * (m / (Int.gcd n m : Int))) - s) % m = 0 := by
  have g0 := gcd_pos' (m := m) hn
  obtain ⟨n1, e1⟩ := Int.gcd_dvd_left (a := n) (b := m)
  obtain ⟨m1, e2⟩ := Int.gcd_dvd_right (a := n) (b := m)
  have hl := lcm_eq hn hm e2
  generalize (Int.gcd n m : Int) = g at *
  have d1 : n / g = n1 := by rw [e1]; exact Int.mul_ediv_cancel_left _ (by omega)
  have d2 : m / g = m1 := by rw [e2]; exact Int.mul_ediv_cancel_left _ (by omega)
  obtain ⟨t, e3⟩ := Int.dvd_of_emod_eq_zero h
  have d3 : (s - r) / g = t := by rw [e3]; exact Int.mul_ediv_cancel_left _ (by omega)
  rw [d1, d2] at hi
  rw [d2, d3]
  obtain ⟨u, e4⟩ := Int.dvd_of_emod_eq_zero hi
  have m1p : 0 < m1 := by
    rcases Int.lt_or_le 0 m1 with z | z
    · exact z
    · have : g * m1 ≤ 0 := Int.mul_nonpos_of_nonneg_of_nonpos (by omega) z
      omega
  have wp : 0 < n * m1 := Int.mul_pos (by omega) m1p
  obtain ⟨v, e5⟩ : ∃ v, t * i % m1 = t * i - m1 * v := ⟨t * i / m1, by have := Int.emod_add_mul_ediv (t * i) m1; omega⟩
  obtain ⟨y, e6⟩ : ∃ y, (r + n * (t * i % m1)) % (n * m1) = r + n * (t * i % m1) - n * m1 * y := ⟨(r + n * (t * i % m1)) / (n * m1), by have := Int.emod_add_mul_ediv (r + n * (t * i % m1)) (n * m1); omega⟩
  refine ⟨hl.symm, Int.emod_nonneg _ (by omega), Int.emod_lt_of_pos _ wp, ?_, ?_⟩
  · rw [e6]
    have : r + n * (t * i % m1) - n * m1 * y - r = n * (t * i % m1 - m1 * y) := by rw [Int.mul_sub, Int.mul_assoc]; omega
    rw [this]
    exact Int.mul_emod_right _ _
  · rw [e6, e5]
    have e7 : s = r + g * t := by omega
    have e8 : n1 * i = 1 + m1 * u := by omega
    have : r + n * (t * i - m1 * v) - n * m1 * y - s = m * (u * t - n1 * v - n1 * y) := by
      rw [e7, e2]
      have a1 : n * (t * i) = g * t * (n1 * i) := by rw [e1]; ac_rfl
      have a2 : n * (m1 * v) = g * m1 * (n1 * v) := by rw [e1]; ac_rfl
      have a3 : n * m1 * y = g * m1 * (n1 * y) := by rw [e1]; ac_rfl
      have a4 : g * t * (m1 * u) = g * m1 * (u * t) := by ac_rfl
      rw [Int.mul_sub, a1, a2, a3, e8, Int.mul_add, a4, Int.mul_one, Int.mul_sub, Int.mul_sub]
      omega
    rw [this]
    exact Int.mul_emod_right _ _
/-- the least number that all rounds divide -/
def lcmL : List (Int × Int) → Int
  | [] => 1
  | p :: ps => Int.lcm (lcmL ps) p.1
def Fits (ps : List (Int × Int)) (x : Int) : Prop := ∀ p ∈ ps, (x - p.2) % p.1 = 0
/-- two rounds that bar each other -/
def Bars (p q : Int × Int) : Prop := (q.2 - p.2) % (Int.gcd p.1 q.1 : Int) ≠ 0
/-- the first that bars, or the answer -/
def First (ps : List (Int × Int)) (i j : Nat) : Prop := i < j ∧ (∃ p q, ps[i]? = some p ∧ ps[j]? = some q ∧ Bars p q) ∧ ∀ (i' j' : Nat) (p q : Int × Int), i' < j' → (i' < i ∨ (i' = i ∧ j' < j)) → ps[i']? = some p → ps[j']? = some q → ¬ Bars p q
def NoBar (ps : List (Int × Int)) : Prop := ∀ (i j : Nat) (p q : Int × Int), i < j → ps[i]? = some p → ps[j]? = some q → ¬ Bars p q

theorem dvd_of_mod {a b : Int} (h : a % b = 0) : b ∣ a := Int.dvd_of_emod_eq_zero h
theorem lcmL_pos : ∀ {ps : List (Int × Int)}, (∀ p ∈ ps, 1 ≤ p.1) → 1 ≤ lcmL ps
  | [], _ => by decide
  | p :: ps, h => by
    have h1 := lcmL_pos (ps := ps) fun q hq => h q (List.mem_cons_of_mem _ hq)
    have h2 := h p List.mem_cons_self
    have z : Int.lcm (lcmL ps) p.1 ≠ 0 := by
      unfold Int.lcm
      exact Nat.ne_of_gt (Nat.lcm_pos (by omega) (by omega))
    unfold lcmL
    omega
theorem lcmL_le {B : Int} : ∀ {ps : List (Int × Int)}, (∀ p ∈ ps, 1 ≤ p.1 ∧ p.1 ≤ B) → lcmL ps ≤ B ^ ps.length
  | [], _ => by simp [lcmL]
  | p :: ps, h => by
    have h1 := lcmL_le (ps := ps) fun q hq => h q (List.mem_cons_of_mem _ hq)
    have h0 := lcmL_pos (ps := ps) fun q hq => (h q (List.mem_cons_of_mem _ hq)).1
    have h2 := h p List.mem_cons_self
    have k : Int.lcm (lcmL ps) p.1 ≤ (lcmL ps).natAbs * p.1.natAbs := Nat.le_of_dvd (Nat.mul_pos (by omega) (by omega)) (Nat.lcm_dvd_mul _ _)
    have k2 : (Int.lcm (lcmL ps) p.1 : Int) ≤ lcmL ps * p.1 := by
      have := Int.ofNat_le.mpr k
      rw [Int.natCast_mul, Int.natAbs_of_nonneg (by omega), Int.natAbs_of_nonneg (by omega)] at this
      exact this
    show (Int.lcm (lcmL ps) p.1 : Int) ≤ B ^ (ps.length + 1)
    rw [Int.pow_succ]
    exact Int.le_trans k2 (Int.mul_le_mul h1 h2.2 (by omega) (Int.le_trans (by omega) h1))
theorem fit_step {m s x : Int} (hm : 1 ≤ m) : ∀ {ps : List (Int × Int)}, (∀ p ∈ ps, 1 ≤ p.1) → Fits ps x → (∀ p ∈ ps, (s - p.2) % (Int.gcd p.1 m : Int) = 0) → (s - x) % (Int.gcd (lcmL ps) m : Int) = 0
  | [], _, _, _ => by
    have e : Int.gcd (lcmL []) m = 1 := by simp [lcmL]
    rw [e]; simp
  | p :: ps, h, hx, hb => by
    have i1 := fit_step hm (ps := ps) (fun q hq => h q (List.mem_cons_of_mem _ hq)) (fun q hq => hx q (List.mem_cons_of_mem _ hq)) (fun q hq => hb q (List.mem_cons_of_mem _ hq))
    have h1 := dvd_of_mod i1
    have h2 := dvd_of_mod (hb p List.mem_cons_self)
    have h3 := dvd_of_mod (hx p List.mem_cons_self)
    have h4 : (Int.gcd p.1 m : Int) ∣ s - x := by
      have z := Int.dvd_sub h2 (Int.dvd_trans (Int.gcd_dvd_left (a := p.1) (b := m)) h3)
      rwa [show s - p.2 - (x - p.2) = s - x by omega] at z
    refine Int.emod_eq_zero_of_dvd ?_
    exact gcd_lcm_dvd (a := (lcmL ps).natAbs) (b := p.1.natAbs) (m := m.natAbs) (by omega) h1 h4
theorem gcd_div_one {n m : Int} (hn : 1 ≤ n) : Int.gcd (n / (Int.gcd n m : Int)) (m / (Int.gcd n m : Int)) = 1 := by
  have g0 := gcd_pos' (m := m) hn
  obtain ⟨n1, e1⟩ := Int.gcd_dvd_left (a := n) (b := m)
  obtain ⟨m1, e2⟩ := Int.gcd_dvd_right (a := n) (b := m)
  have d1 : n / (Int.gcd n m : Int) = n1 := by
    generalize (Int.gcd n m : Int) = g at *
    rw [e1]; exact Int.mul_ediv_cancel_left _ (by omega)
  have d2 : m / (Int.gcd n m : Int) = m1 := by
    generalize (Int.gcd n m : Int) = g at *
    rw [e2]; exact Int.mul_ediv_cancel_left _ (by omega)
  rw [d1, d2]
  have k : Int.gcd n m = Int.gcd n m * Int.gcd n1 m1 := by
    have z : Int.gcd ((Int.gcd n m : Int) * n1) ((Int.gcd n m : Int) * m1) = Int.gcd n m * Int.gcd n1 m1 := by rw [Int.gcd_mul_left]; simp
    rw [← e1, ← e2] at z
    exact z
  have p : 0 < Int.gcd n m := by omega
  have q : Int.gcd n m * 1 = Int.gcd n m * Int.gcd n1 m1 := by omega
  exact (Nat.eq_of_mul_eq_mul_left p q).symm
theorem dvd_lcmL : ∀ {ps : List (Int × Int)} {p : Int × Int}, p ∈ ps → p.1 ∣ lcmL ps
  | q :: ps, p, h => by
    show p.1 ∣ (Int.lcm (lcmL ps) q.1 : Int)
    rcases List.mem_cons.mp h with rfl | h
    · exact Int.dvd_lcm_right _ _
    · exact Int.dvd_trans (dvd_lcmL h) (Int.dvd_lcm_left _ _)
theorem fits_more {ps : List (Int × Int)} {x y : Int} (h : Fits ps x) (hy : (y - x) % lcmL ps = 0) : Fits ps y := fun p hp => by
  have h1 := Int.dvd_trans (dvd_lcmL hp) (dvd_of_mod hy)
  have h2 := dvd_of_mod (h p hp)
  have z := Int.dvd_add h1 h2
  rw [show y - x + (x - p.2) = y - p.2 by omega] at z
  exact Int.emod_eq_zero_of_dvd z
theorem pow_small {k : Nat} (h : k ≤ 6) : (999999 : Int) ^ k ≤ 10 ^ 40 := by
  have : k = 0 ∨ k = 1 ∨ k = 2 ∨ k = 3 ∨ k = 4 ∨ k = 5 ∨ k = 6 := by omega
  rcases this with rfl | rfl | rfl | rfl | rfl | rfl | rfl <;> decide
end K10
/-! K41m: the mathematics: two pieces side by side. -/
namespace K41
open K10 (gcd_pos' lcm_eq gcd_turn dvd_of_mod)
theorem bez (a b : Nat) : ∃ x y : Int, (a : Int) * x + (b : Int) * y = (Nat.gcd a b : Nat) := by
  induction a, b using Nat.gcd.induction with
  | H0 n => exact ⟨0, 1, by simp⟩
  | H1 m n hm ih =>
    obtain ⟨x, y, e⟩ := ih
    rw [← Nat.gcd_rec] at e
    refine ⟨y - (n / m : Nat) * x, x, ?_⟩
    rw [← e]
    have k : ((n % m : Nat) : Int) = (n : Int) - m * (n / m : Nat) := by
      have := Nat.mod_add_div n m
      have h2 : ((n % m + m * (n / m) : Nat) : Int) = (n : Int) := by rw [this]
      rw [Int.natCast_add, Int.natCast_mul] at h2
      omega
    rw [k, Int.mul_sub, Int.sub_mul, ← Int.mul_assoc]
    omega
/-- a number that leaves both rests -/
theorem crt {n m s b : Int} (hn : 1 ≤ n) (hm : 1 ≤ m) (h : (b - s) % (Int.gcd n m : Int) = 0) : ∃ x, 0 ≤ x ∧ (x - s) % n = 0 ∧ (x - b) % m = 0 := by
  obtain ⟨x, y, e⟩ := bez n.toNat m.toNat
  have en : ((n.toNat : Nat) : Int) = n := by omega
  have em : ((m.toNat : Nat) : Int) = m := by omega
  have eg : Nat.gcd n.toNat m.toNat = Int.gcd n m := by
    unfold Int.gcd
    rw [show n.toNat = n.natAbs by omega, show m.toNat = m.natAbs by omega]
  rw [en, em, eg] at e
  obtain ⟨t, ht⟩ := dvd_of_mod h
  have e2 : (Int.gcd n m : Int) * t = n * (x * t) + m * (y * t) := by rw [← e, Int.add_mul, Int.mul_assoc, Int.mul_assoc]
  have L : 0 < n * m := Int.mul_pos (by omega) (by omega)
  refine ⟨(s + n * (x * t)) % (n * m), Int.emod_nonneg _ (by omega), ?_, ?_⟩
  · refine Int.emod_eq_zero_of_dvd ?_
    have z := Int.emod_add_mul_ediv (s + n * (x * t)) (n * m)
    refine ⟨x * t - m * ((s + n * (x * t)) / (n * m)), ?_⟩
    rw [Int.mul_sub, ← Int.mul_assoc n m]
    omega
  · refine Int.emod_eq_zero_of_dvd ?_
    have z := Int.emod_add_mul_ediv (s + n * (x * t)) (n * m)
    refine ⟨-(y * t) - n * ((s + n * (x * t)) / (n * m)), ?_⟩
    rw [Int.mul_sub, ← Int.mul_assoc m n, Int.mul_comm m n, Int.mul_neg]
    omega
/-! ### pieces -/
def PieceOk (p : Int × Int) : Prop := 1 ≤ p.1 ∧ p.1 ≤ 1440 ∧ 1 ≤ p.2 ∧ p.2 ≤ p.1
def At (p : Int × Int) (s m : Int) : Prop := (m - s) % p.1 < p.2
def Both (p : Int × Int) (s : Int) (q : Int × Int) (b m : Int) : Prop := At p s m ∧ At q b m
instance (p : Int × Int) (s m : Int) : Decidable (At p s m) := by unfold At; infer_instance
instance (p : Int × Int) (s : Int) (q : Int × Int) (b m : Int) : Decidable (Both p s q b m) := by unfold Both; infer_instance
def IsFirst (p : Int × Int) (s : Int) (q : Int × Int) (b m : Int) : Prop := 0 ≤ m ∧ Both p s q b m ∧ ∀ m', 0 ≤ m' → m' < m → ¬ Both p s q b m'
def Clash (p : Int × Int) (s : Int) (q : Int × Int) (b : Int) : Prop := (b - s) % (Int.gcd p.1 q.1 : Int) < p.2 ∨ (s - b) % (Int.gcd p.1 q.1 : Int) < q.2
theorem IsFirst.same {p q : Int × Int} {s b m m' : Int} (h : IsFirst p s q b m) (h' : IsFirst p s q b m') : m = m' := by
  rcases Int.lt_trichotomy m m' with z | z | z
  · exact absurd h.2.1 (h'.2.2 m h.1 z)
  · exact z
  · exact absurd h'.2.1 (h.2.2 m' h'.1 z)
/-- equal rests -/
theorem at_cong {p : Int × Int} {s m k : Int} (h : (m - k) % p.1 = 0) : At p s m ↔ At p s k := by
  have e : (m - s) % p.1 = (k - s) % p.1 := by
    have := Int.emod_emod_of_dvd (m - s) (Int.dvd_refl p.1)
    rw [show m - s = (k - s) + (m - k) by omega, Int.add_emod, h, Int.add_zero, Int.emod_emod_of_dvd _ (Int.dvd_refl _)]
  unfold At
  rw [e]
theorem both_min {p q : Int × Int} {s b : Int} (h : ∃ m, 0 ≤ m ∧ Both p s q b m) : ∃ m, IsFirst p s q b m := by
  obtain ⟨m, h0, hm⟩ := h
  have : ∀ n : Nat, (∃ k : Nat, k ≤ n ∧ Both p s q b k) → ∃ m, IsFirst p s q b m := by
    intro n
    induction n with
    | zero =>
      rintro ⟨k, hk, hb⟩
      have : k = 0 := by omega
      subst this
      exact ⟨0, by decide, hb, fun m' h1 h2 => by omega⟩
    | succ n ih =>
      rintro ⟨k, hk, hb⟩
      by_cases z : ∃ k : Nat, k ≤ n ∧ Both p s q b k
      · exact ih z
      · have : k = n + 1 := by
          by_cases w : k ≤ n
          · exact absurd ⟨k, w, hb⟩ z
          · omega
        subst this
        refine ⟨((n + 1 : Nat) : Int), by omega, hb, fun m' h1 h2 hb' => z ⟨m'.toNat, by omega, ?_⟩⟩
        rw [Int.toNat_of_nonneg h1]; exact hb'
  exact this m.toNat ⟨m.toNat, Nat.le_refl _, by rw [Int.toNat_of_nonneg h0]; exact hm⟩
theorem gcd_dvd_sub {n m x u s v b : Int} (hu : (x - s) % n = u) (hv : (x - b) % m = v) : (Int.gcd n m : Int) ∣ (b - s) - (u - v) := by
  have z1 := Int.emod_add_mul_ediv (x - s) n
  have z2 := Int.emod_add_mul_ediv (x - b) m
  rw [hu] at z1
  rw [hv] at z2
  have d1 := Int.dvd_trans (Int.gcd_dvd_left (a := n) (b := m)) (Int.dvd_mul_right n ((x - s) / n))
  have d2 := Int.dvd_trans (Int.gcd_dvd_right (a := n) (b := m)) (Int.dvd_mul_right m ((x - b) / m))
  have z := Int.dvd_sub d1 d2
  rwa [show n * ((x - s) / n) - m * ((x - b) / m) = (b - s) - (u - v) by omega] at z
theorem mod_le_of {a c g : Int} (hg : 0 < g) (hc : 0 ≤ c) (h : g ∣ a - c) : a % g ≤ c := by
  have e : a % g = c % g := Int.emod_eq_emod_iff_emod_sub_eq_zero.mpr (Int.emod_eq_zero_of_dvd h)
  rw [e]
  have := Int.emod_add_mul_ediv c g
  have h2 : 0 ≤ g * (c / g) := Int.mul_nonneg (by omega) (Int.ediv_nonneg hc (by omega))
  omega
theorem clash_iff {p q : Int × Int} (hp : PieceOk p) (hq : PieceOk q) {s b : Int} : Clash p s q b ↔ ∃ m, 0 ≤ m ∧ Both p s q b m := by
  obtain ⟨p1, p2, p3, p4⟩ := hp
  obtain ⟨q1, q2, q3, q4⟩ := hq
  have g0 := gcd_pos' (m := q.1) p1
  have gp : (Int.gcd p.1 q.1 : Int) ≤ p.1 := Int.le_of_dvd (by omega) (Int.gcd_dvd_left (a := p.1) (b := q.1))
  have gq : (Int.gcd p.1 q.1 : Int) ≤ q.1 := Int.le_of_dvd (by omega) (Int.gcd_dvd_right (a := p.1) (b := q.1))
  constructor
  · rintro (h | h)
    · have d0 := Int.emod_nonneg (b - s) (show (Int.gcd p.1 q.1 : Int) ≠ 0 by omega)
      have d1 := Int.emod_lt_of_pos (b - s) g0
      obtain ⟨x, x0, x1, x2⟩ := crt (n := p.1) (m := q.1) (s := s + (b - s) % (Int.gcd p.1 q.1 : Int)) (b := b) p1 q1 (by
        have z := Int.emod_add_mul_ediv (b - s) (Int.gcd p.1 q.1 : Int)
        refine Int.emod_eq_zero_of_dvd ⟨(b - s) / (Int.gcd p.1 q.1 : Int), by omega⟩)
      refine ⟨x, x0, ?_, ?_⟩
      · unfold At
        have : (x - s) % p.1 ≤ (b - s) % (Int.gcd p.1 q.1 : Int) := mod_le_of (by omega) d0 (by
          have := dvd_of_mod x1
          rwa [show x - (s + (b - s) % (Int.gcd p.1 q.1 : Int)) = x - s - (b - s) % (Int.gcd p.1 q.1 : Int) by omega] at this)
        omega
      · unfold At; rw [x2]; omega
    · have d0 := Int.emod_nonneg (s - b) (show (Int.gcd p.1 q.1 : Int) ≠ 0 by omega)
      obtain ⟨x, x0, x1, x2⟩ := crt (n := p.1) (m := q.1) (s := s) (b := b + (s - b) % (Int.gcd p.1 q.1 : Int)) p1 q1 (by
        have z := Int.emod_add_mul_ediv (s - b) (Int.gcd p.1 q.1 : Int)
        refine Int.emod_eq_zero_of_dvd ⟨-((s - b) / (Int.gcd p.1 q.1 : Int)), by rw [Int.mul_neg]; omega⟩)
      refine ⟨x, x0, ?_, ?_⟩
      · unfold At; rw [x1]; omega
      · unfold At
        have : (x - b) % q.1 ≤ (s - b) % (Int.gcd p.1 q.1 : Int) := mod_le_of (by omega) d0 (by
          have := dvd_of_mod x2
          rwa [show x - (b + (s - b) % (Int.gcd p.1 q.1 : Int)) = x - b - (s - b) % (Int.gcd p.1 q.1 : Int) by omega] at this)
        omega
  · rintro ⟨x, x0, h1, h2⟩
    have u0 := Int.emod_nonneg (x - s) (show p.1 ≠ 0 by omega)
    have v0 := Int.emod_nonneg (x - b) (show q.1 ≠ 0 by omega)
    have d := gcd_dvd_sub (n := p.1) (m := q.1) (x := x) (s := s) (b := b) rfl rfl
    unfold At at h1 h2
    by_cases z : (x - b) % q.1 ≤ (x - s) % p.1
    · left
      have := mod_le_of (a := b - s) (c := (x - s) % p.1 - (x - b) % q.1) g0 (by omega) d
      omega
    · right
      have d' := Int.dvd_neg.mpr d
      rw [show -((b - s) - ((x - s) % p.1 - (x - b) % q.1)) = (s - b) - ((x - b) % q.1 - (x - s) % p.1) by omega] at d'
      have := mod_le_of (a := s - b) (c := (x - b) % q.1 - (x - s) % p.1) g0 (by omega) d'
      omega
/-- a common minute is there within the first round of both -/
theorem first_lt {p q : Int × Int} (hp : PieceOk p) (hq : PieceOk q) {s b m : Int} (h : IsFirst p s q b m) : m < (Int.lcm p.1 q.1 : Int) := by
  have l0 : 0 < (Int.lcm p.1 q.1 : Int) := by
    have := Nat.lcm_pos (m := p.1.natAbs) (n := q.1.natAbs) (by have := hp.1; omega) (by have := hq.1; omega)
    have e : Int.lcm p.1 q.1 = Nat.lcm p.1.natAbs q.1.natAbs := rfl
    omega
  rcases Int.lt_or_le m (Int.lcm p.1 q.1 : Int) with z | z
  · exact z
  · exfalso
    refine h.2.2 (m - (Int.lcm p.1 q.1 : Int)) (by omega) (by omega) ⟨(at_cong ?_).mp h.2.1.1, (at_cong ?_).mp h.2.1.2⟩
    · rw [show m - (m - (Int.lcm p.1 q.1 : Int)) = (Int.lcm p.1 q.1 : Int) by omega]
      exact Int.emod_eq_zero_of_dvd (Int.dvd_lcm_left _ _)
    · rw [show m - (m - (Int.lcm p.1 q.1 : Int)) = (Int.lcm p.1 q.1 : Int) by omega]
      exact Int.emod_eq_zero_of_dvd (Int.dvd_lcm_right _ _)
/-- the first common minute is a beginning of one of both, or minute 0 -/
theorem first_at {p q : Int × Int} (hp : PieceOk p) (hq : PieceOk q) {s b m : Int} (h : IsFirst p s q b m) (h0 : 0 < m) : (m - s) % p.1 = 0 ∨ (m - b) % q.1 = 0 := by
  have back : ∀ {p : Int × Int} {s : Int}, PieceOk p → At p s m → (m - s) % p.1 ≠ 0 → At p s (m - 1) := by
    intro p s hp ha hz
    obtain ⟨p1, p2, p3, p4⟩ := hp
    unfold At at *
    have u0 := Int.emod_nonneg (m - s) (show p.1 ≠ 0 by omega)
    have := mod_le_of (a := m - 1 - s) (c := (m - s) % p.1 - 1) (g := p.1) (by omega) (by omega) (by
      have z := Int.emod_add_mul_ediv (m - s) p.1
      exact ⟨(m - s) / p.1, by omega⟩)
    omega
  by_cases z1 : (m - s) % p.1 = 0
  · exact .inl z1
  · by_cases z2 : (m - b) % q.1 = 0
    · exact .inr z2
    · exact absurd ⟨back hp h.2.1.1 z1, back hq h.2.1.2 z2⟩ (h.2.2 (m - 1) (by omega) (by omega))
/-- that beginning's lap -/
theorem first_lap {p q : Int × Int} (hp : PieceOk p) (hq : PieceOk q) {s b m : Int} (s0 : 0 ≤ s) (s1 : s < p.1) (h : IsFirst p s q b m) (hz : (m - s) % p.1 = 0) : ∃ k : Nat, (k : Int) < q.1 / (Int.gcd p.1 q.1 : Int) ∧ m = s + p.1 * k := by
  obtain ⟨p1, p2, p3, p4⟩ := hp
  obtain ⟨k, hk⟩ := dvd_of_mod hz
  have hlt := first_lt ⟨p1, p2, p3, p4⟩ hq h
  obtain ⟨m1, e2⟩ := Int.gcd_dvd_right (a := p.1) (b := q.1)
  have g0 := gcd_pos' (m := q.1) p1
  rw [lcm_eq p1 hq.1 e2] at hlt
  have d2 : q.1 / (Int.gcd p.1 q.1 : Int) = m1 := by
    generalize (Int.gcd p.1 q.1 : Int) = g at *
    rw [e2]; exact Int.mul_ediv_cancel_left _ (by omega)
  rw [d2]
  have m0 := h.1
  have k0 : 0 ≤ k := by
    rcases Int.lt_or_le k 0 with z | z
    · have : p.1 * k ≤ p.1 * (-1) := Int.mul_le_mul_of_nonneg_left (by omega) (by omega)
      omega
    · exact z
  have k1 : k < m1 := by
    rcases Int.lt_or_le k m1 with z | z
    · exact z
    · have : p.1 * m1 ≤ p.1 * k := Int.mul_le_mul_of_nonneg_left z (by omega)
      omega
  exact ⟨k.toNat, by omega, by rw [Int.toNat_of_nonneg k0]; omega⟩
/-- there is room exactly if some beginnings do not clash -/
theorem no_clash_room {p q : Int × Int} (hp : PieceOk p) (hq : PieceOk q) {s b : Int} (h : ¬ Clash p s q b) : p.2 + q.2 ≤ (Int.gcd p.1 q.1 : Int) := by
  have g0 := gcd_pos' (m := q.1) hp.1
  unfold Clash at h
  have h1 : p.2 ≤ (b - s) % (Int.gcd p.1 q.1 : Int) := by omega
  have h2 : q.2 ≤ (s - b) % (Int.gcd p.1 q.1 : Int) := by omega
  have z1 := Int.emod_add_mul_ediv (b - s) (Int.gcd p.1 q.1 : Int)
  have d1 := Int.emod_lt_of_pos (b - s) g0
  have := mod_le_of (a := s - b) (c := (Int.gcd p.1 q.1 : Int) - (b - s) % (Int.gcd p.1 q.1 : Int)) g0 (by omega) ⟨-((b - s) / (Int.gcd p.1 q.1 : Int)) - 1, by rw [Int.mul_sub, Int.mul_neg]; omega⟩
  omega
theorem room_free {p q : Int × Int} (hp : PieceOk p) (hq : PieceOk q) (h : p.2 + q.2 ≤ (Int.gcd p.1 q.1 : Int)) : ¬ Clash p 0 q p.2 ∧ p.2 < q.1 := by
  have g0 := gcd_pos' (m := q.1) hp.1
  have gq : (Int.gcd p.1 q.1 : Int) ≤ q.1 := Int.le_of_dvd (by have := hq.1; omega) (Int.gcd_dvd_right (a := p.1) (b := q.1))
  obtain ⟨p1, p2, p3, p4⟩ := hp
  obtain ⟨q1, q2, q3, q4⟩ := hq
  refine ⟨?_, by omega⟩
  unfold Clash
  have e1 : (p.2 - 0) % (Int.gcd p.1 q.1 : Int) = p.2 := by rw [Int.sub_zero]; exact Int.emod_eq_of_lt (by omega) (by omega)
  have e2 : (0 - p.2) % (Int.gcd p.1 q.1 : Int) = (Int.gcd p.1 q.1 : Int) - p.2 := by
    rw [show (0 - p.2 : Int) = ((Int.gcd p.1 q.1 : Int) - p.2) + (Int.gcd p.1 q.1 : Int) * (-1) by rw [Int.mul_neg]; omega, Int.add_mul_emod_self_left]
    exact Int.emod_eq_of_lt (by omega) (by omega)
  rw [e1, e2]
  omega
/-! ### the first of all pairs -/
def First {Z : Type} (C : Z → Z → Prop) (zs : List Z) (i j : Nat) : Prop := i < j ∧ (∃ p q, zs[i]? = some p ∧ zs[j]? = some q ∧ C p q) ∧ ∀ (i' j' : Nat) (p q : Z), i' < j' → (i' < i ∨ (i' = i ∧ j' < j)) → zs[i']? = some p → zs[j']? = some q → ¬ C p q
def NoBar {Z : Type} (C : Z → Z → Prop) (zs : List Z) : Prop := ∀ (i j : Nat) (p q : Z), i < j → zs[i]? = some p → zs[j]? = some q → ¬ C p q
theorem First.same {Z : Type} {C : Z → Z → Prop} {ps : List Z} {i j i' j' : Nat} (h : First C ps i j) (h' : First C ps i' j') : i = i' ∧ j = j' := by
  obtain ⟨a1, ⟨p, q, a2, a3, a4⟩, a5⟩ := h
  obtain ⟨b1, ⟨p', q', b2, b3, b4⟩, b5⟩ := h'
  have x : ¬ (i < i' ∨ (i = i' ∧ j < j')) := fun z => b5 i j p q a1 z a2 a3 a4
  have y : ¬ (i' < i ∨ (i' = i ∧ j' < j)) := fun z => a5 i' j' p' q' b1 z b2 b3 b4
  omega
theorem First.bar {Z : Type} {C : Z → Z → Prop} {ps : List Z} {i j : Nat} (h : First C ps i j) (nb : NoBar C ps) : False := by
  obtain ⟨a1, ⟨p, q, a2, a3, a4⟩, a5⟩ := h
  exact nb i j p q a1 a2 a3 a4
/-! ### frames -/
/-- one step of a frame -/
def frS (i : Nat) (e : Int) (f : Int) (j : Nat) (q : Int × Int) : Int := if j = i then f else (Int.lcm f (Int.gcd e q.1) : Int)
def frA (i : Nat) (e : Int) : Nat → List (Int × Int) → Int → Int
  | _, [], f => f
  | j, q :: qs, f => frA i e (j + 1) qs (frS i e f j q)
def frs (ps : List (Int × Int)) : Nat → List (Int × Int) → List Int
  | _, [] => []
  | i, p :: rest => frA i p.1 0 ps 1 :: frs ps (i + 1) rest
theorem frS_le {i j : Nat} {e f : Int} {q : Int × Int} (he : 1 ≤ e) (he2 : e ≤ 1440) (hf : 1 ≤ f) : 1 ≤ frS i e f j q ∧ frS i e f j q ≤ f * 1440 := by
  unfold frS
  split
  · omega
  · have g0 := gcd_pos' (m := q.1) he
    have g1 : (Int.gcd e q.1 : Int) ≤ e := Int.le_of_dvd (by omega) (Int.gcd_dvd_left (a := e) (b := q.1))
    have l0 := Nat.lcm_pos (m := f.natAbs) (n := Int.gcd e q.1) (by omega) (by omega)
    have l1 : Nat.lcm f.natAbs (Int.gcd e q.1) ≤ f.natAbs * Int.gcd e q.1 := Nat.le_of_dvd (Nat.mul_pos (by omega) (by omega)) (Nat.lcm_dvd_mul _ _)
    have e1 : Int.lcm f (Int.gcd e q.1 : Int) = Nat.lcm f.natAbs (Int.gcd e q.1) := rfl
    rw [e1]
    refine ⟨by omega, ?_⟩
    have l2 : ((Nat.lcm f.natAbs (Int.gcd e q.1) : Nat) : Int) ≤ f * (Int.gcd e q.1 : Int) := by
      have := Int.ofNat_le.mpr l1
      rw [Int.natCast_mul, Int.natAbs_of_nonneg (by omega)] at this
      exact this
    exact Int.le_trans l2 (Int.mul_le_mul_of_nonneg_left (by omega) (by omega))
theorem frA_le {i : Nat} {e : Int} (he : 1 ≤ e) (he2 : e ≤ 1440) : ∀ (qs : List (Int × Int)) (j : Nat) (f : Int), 1 ≤ f → 1 ≤ frA i e j qs f ∧ frA i e j qs f ≤ f * 1440 ^ qs.length
  | [], j, f, hf => by simp [frA, hf]
  | q :: qs, j, f, hf => by
    obtain ⟨h1, h2⟩ := frS_le (i := i) (j := j) (q := q) he he2 hf
    obtain ⟨h3, h4⟩ := frA_le he he2 qs (j + 1) _ h1
    refine ⟨h3, Int.le_trans h4 ?_⟩
    rw [List.length_cons, Int.pow_succ, Int.mul_comm (1440 ^ qs.length) 1440, ← Int.mul_assoc]
    exact Int.mul_le_mul_of_nonneg_right h2 (Int.pow_nonneg (by decide))
end K41
/-! K25m: the mathematics: runs that fall into spans that come again. -/
namespace K25
open PySem PySem.Spec AA
open K10 (gcd_pos' gcd_turn dvd_of_mod)
open K41 (bez mod_le_of)
/-- the k-th step is in a span -/
def Hit (s N b e l : Int) (k : Nat) : Prop := (s + N * k - b) % e < l
instance (s N b e l : Int) (k : Nat) : Decidable (Hit s N b e l k) := by unfold Hit; infer_instance
def FirstK (s N b e l : Int) (k : Nat) : Prop := Hit s N b e l k ∧ ∀ j, j < k → ¬ Hit s N b e l j
theorem FirstK.same {s N b e l : Int} {k k' : Nat} (h : FirstK s N b e l k) (g : FirstK s N b e l k') : k = k' := by
  rcases Nat.lt_trichotomy k k' with z | z | z
  · exact absurd h.1 (g.2 k z)
  · exact z
  · exact absurd g.1 (h.2 k' z)
theorem least {P : Nat → Prop} [DecidablePred P] (n : Nat) (h : P n) : ∃ k, k ≤ n ∧ P k ∧ ∀ j, j < k → ¬ P j := by
  induction n using Nat.strongRecOn with
  | _ n ih =>
    by_cases z : ∃ j, j < n ∧ P j
    · obtain ⟨j, hj, pj⟩ := z
      obtain ⟨k, h1, h2, h3⟩ := ih j hj pj
      exact ⟨k, by omega, h2, h3⟩
    · exact ⟨n, Nat.le_refl _, h, fun j hj pj => z ⟨j, hj, pj⟩⟩
theorem gcd_dvds (N e : Int) : ((Int.gcd N e : Nat) : Int) ∣ N ∧ ((Int.gcd N e : Nat) : Int) ∣ e := ⟨Int.gcd_dvd_left .., Int.gcd_dvd_right ..⟩
/-- a span is met within a round -/
theorem hit_ex {s N b e l : Int} (hN : 1 ≤ N) (he : 1 ≤ e) (h : (s - b) % (Int.gcd N e : Int) < l) : ∃ k : Nat, FirstK s N b e l k ∧ (k : Int) < e / (Int.gcd N e : Int) := by
  have g0 := gcd_pos' (m := e) hN
  obtain ⟨d1, d2⟩ := gcd_dvds N e
  obtain ⟨x, y, ex⟩ := bez N.toNat e.toNat
  have eN : ((N.toNat : Nat) : Int) = N := by omega
  have ee : ((e.toNat : Nat) : Int) = e := by omega
  have eg : Nat.gcd N.toNat e.toNat = Int.gcd N e := by
    unfold Int.gcd
    rw [show N.toNat = N.natAbs by omega, show e.toNat = e.natAbs by omega]
  rw [eN, ee, eg] at ex
  generalize hg : ((Int.gcd N e : Nat) : Int) = g at *
  obtain ⟨N', hN'⟩ := d1
  obtain ⟨E, hE⟩ := d2
  have eE : e / g = E := by rw [hE, Int.mul_ediv_cancel_left _ (by omega)]
  have E0 : 0 < E := by
    rcases Int.lt_or_le 0 E with z | z
    · exact z
    · have : g * E ≤ 0 := Int.mul_nonpos_of_nonneg_of_nonpos (by omega) z
      omega
  have r0 := Int.emod_nonneg (s - b) (show g ≠ 0 by omega)
  have r1 := Int.emod_lt_of_pos (s - b) g0
  have rd := Int.emod_add_mul_ediv (s - b) g
  generalize (s - b) % g = r at *
  generalize (s - b) / g = q at *
  have k0 := Int.emod_nonneg (-(q * x)) (show E ≠ 0 by omega)
  have k1 := Int.emod_lt_of_pos (-(q * x)) E0
  have kd := Int.emod_add_mul_ediv (-(q * x)) E
  generalize -(q * x) % E = k at *
  generalize -(q * x) / E = t at *
  have hit : Hit s N b e l k.toNat := by
    unfold Hit
    have ek : ((k.toNat : Nat) : Int) = k := by omega
    rw [ek]
    have e1 : s + N * k - b = r + e * (q * y - N' * t) := by
      have a1 : k = -(q * x) - E * t := by omega
      have a2 : N * k = -(q * (N * x)) - N' * t * (g * E) := by
        rw [a1, Int.mul_sub, Int.mul_neg]
        have : N * (E * t) = N' * t * (g * E) := by rw [hN']; ac_rfl
        have : N * (q * x) = q * (N * x) := by ac_rfl
        omega
      have a3 : N * x = g - e * y := by omega
      rw [a3, Int.mul_sub, ← hE] at a2
      have a4 : q * (e * y) = e * (q * y) := by ac_rfl
      have a5 : N' * t * e = e * (N' * t) := by ac_rfl
      have a6 : q * g = g * q := by ac_rfl
      rw [Int.mul_sub]
      omega
    rw [e1, Int.add_mul_emod_self_left]
    have re : r < e := by
      have : g * 1 ≤ g * E := Int.mul_le_mul_of_nonneg_left (by omega) (by omega)
      omega
    rw [Int.emod_eq_of_lt r0 re]
    exact h
  obtain ⟨j, j1, j2, j3⟩ := least (P := Hit s N b e l) k.toNat hit
  exact ⟨j, ⟨j2, j3⟩, by rw [eE]; omega⟩
/-- what is met has the rest -/
theorem hit_no {s N b e l : Int} {k : Nat} (hN : 1 ≤ N) (he : 1 ≤ e) (h : Hit s N b e l k) : (s - b) % (Int.gcd N e : Int) < l := by
  have g0 := gcd_pos' (m := e) hN
  obtain ⟨⟨N', hN'⟩, ⟨E, hE⟩⟩ := gcd_dvds N e
  have c0 := Int.emod_nonneg (s + N * k - b) (show e ≠ 0 by omega)
  have cd := Int.emod_add_mul_ediv (s + N * k - b) e
  have := mod_le_of (a := s - b) (c := (s + N * k - b) % e) (g := (Int.gcd N e : Int)) g0 c0 (by
    generalize hg : ((Int.gcd N e : Nat) : Int) = g at *
    refine ⟨E * ((s + N * k - b) / e) - N' * k, ?_⟩
    have a1 : N * (k : Int) = g * (N' * k) := by rw [← Int.mul_assoc, ← hN']
    have a2 : e * ((s + N * k - b) / e) = g * (E * ((s + N * k - b) / e)) := by rw [← Int.mul_assoc, ← hE]
    rw [Int.mul_sub]
    omega)
  exact Int.lt_of_le_of_lt this h
/-- the rest stays by whole steps -/
theorem rest_step {s T N b m : Int} {g : Int} (hg : g ∣ N) (h : s = T + N * m) : (s - b) % g = (T - b) % g := by
  obtain ⟨N', hN'⟩ := hg
  have : s - b = (T - b) + g * (N' * m) := by
    rw [h, hN', Int.mul_assoc]
    omega
  rw [this, Int.add_mul_emod_self_left]
end K25
/-! K11m: the mathematics: two jobs of each so many minutes that meet. -/
namespace K11
open PySem PySem.Spec AA
open K10 (gcd_pos' gcd_turn dvd_of_mod lcm_eq)
open K25 (Hit FirstK hit_ex hit_no gcd_dvds rest_step)
def LASTT : Int := 210379679
def PairOk (p : Int × Int) : Prop := 1 ≤ p.1 ∧ p.1 ≤ 999999 ∧ 0 ≤ p.2 ∧ p.2 ≤ 210379679
def bg (p q : Int × Int) : Int := max p.2 q.2
/-- both run -/
def Bo (p q : Int × Int) (t : Int) : Prop := (t - p.2) % p.1 = 0 ∧ (t - q.2) % q.1 = 0
def Div (p q : Int × Int) : Prop := (q.2 - p.2) % (Int.gcd p.1 q.1 : Int) = 0
instance (p q : Int × Int) : Decidable (Div p q) := by unfold Div; infer_instance
/-- a common rest -/
def IsX (p q : Int × Int) (x : Int) : Prop := 0 ≤ x ∧ x < (Int.lcm p.1 q.1 : Int) ∧ Bo p q x
/-- the first common minute -/
def IsF (p q : Int × Int) (f : Int) : Prop := bg p q ≤ f ∧ f < bg p q + (Int.lcm p.1 q.1 : Int) ∧ Bo p q f
def fm (L x w : Int) : Int := w + (x - w) % L
theorem lcm_pos {p q : Int × Int} (hp : PairOk p) (hq : PairOk q) : 1 ≤ (Int.lcm p.1 q.1 : Int) := by
  have := Int.lcm_pos (m := p.1) (n := q.1) (by have := hp.1; omega) (by have := hq.1; omega)
  omega
theorem lcm_big {p q : Int × Int} (hp : PairOk p) (hq : PairOk q) : (Int.lcm p.1 q.1 : Int) ≤ 999999 * 999999 := by
  obtain ⟨p1, p2, _⟩ := hp
  obtain ⟨q1, q2, _⟩ := hq
  have d : ((Int.lcm p.1 q.1 : Nat) : Int) ∣ p.1 * q.1 := Int.coe_lcm_dvd (Int.dvd_mul_right ..) (Int.dvd_mul_left ..)
  have pos : 0 < p.1 * q.1 := Int.mul_pos (by omega) (by omega)
  have := Int.le_of_dvd pos d
  have : p.1 * q.1 ≤ 999999 * 999999 := Int.mul_le_mul p2 q2 (by omega) (by decide)
  omega
theorem mod0_sub {a b n : Int} (h1 : a % n = 0) (h2 : b % n = 0) : (a - b) % n = 0 :=
  Int.emod_eq_zero_of_dvd (Int.dvd_sub (dvd_of_mod h1) (dvd_of_mod h2))
/-- two common minutes lie whole rounds apart -/
theorem bo_dvd {p q : Int × Int} {t u : Int} (h : Bo p q t) (g : Bo p q u) : (Int.lcm p.1 q.1 : Int) ∣ t - u := by
  refine Int.coe_lcm_dvd ?_ ?_
  · have := mod0_sub h.1 g.1
    rw [show t - p.2 - (u - p.2) = t - u by omega] at this
    exact dvd_of_mod this
  · have := mod0_sub h.2 g.2
    rw [show t - q.2 - (u - q.2) = t - u by omega] at this
    exact dvd_of_mod this
theorem bo_step {p q : Int × Int} {t u : Int} (h : Bo p q t) (d : (Int.lcm p.1 q.1 : Int) ∣ u - t) : Bo p q u := by
  have d1 : p.1 ∣ u - t := Int.dvd_trans (Int.dvd_lcm_left ..) d
  have d2 : q.1 ∣ u - t := Int.dvd_trans (Int.dvd_lcm_right ..) d
  refine ⟨Int.emod_eq_zero_of_dvd ?_, Int.emod_eq_zero_of_dvd ?_⟩
  · rw [show u - p.2 = (t - p.2) + (u - t) by omega]
    exact Int.dvd_add (dvd_of_mod h.1) d1
  · rw [show u - q.2 = (t - q.2) + (u - t) by omega]
    exact Int.dvd_add (dvd_of_mod h.2) d2
theorem apart_eq {L t u w : Int} (hL : 1 ≤ L) (h1 : w ≤ t) (h2 : t < w + L) (h3 : w ≤ u) (h4 : u < w + L) (d : L ∣ t - u) : t = u := by
  obtain ⟨k, hk⟩ := d
  have : k = 0 := by
    rcases Int.lt_trichotomy k 0 with z | z | z
    · have : L * k ≤ L * (-1) := Int.mul_le_mul_of_nonneg_left (by omega) (by omega)
      omega
    · exact z
    · have : L * 1 ≤ L * k := Int.mul_le_mul_of_nonneg_left (by omega) (by omega)
      omega
  subst this
  omega
theorem IsF.same {p q : Int × Int} (hp : PairOk p) (hq : PairOk q) {f g : Int} (h : IsF p q f) (k : IsF p q g) : f = g :=
  apart_eq (lcm_pos hp hq) h.1 h.2.1 k.1 k.2.1 (bo_dvd h.2.2 k.2.2)
theorem fm_bo {p q : Int × Int} (hp : PairOk p) (hq : PairOk q) {x w : Int} (h : IsX p q x) : w ≤ fm (Int.lcm p.1 q.1) x w ∧ fm (Int.lcm p.1 q.1) x w < w + (Int.lcm p.1 q.1 : Int) ∧ Bo p q (fm (Int.lcm p.1 q.1) x w) := by
  have l0 := lcm_pos hp hq
  have r0 := Int.emod_nonneg (x - w) (show ((Int.lcm p.1 q.1 : Nat) : Int) ≠ 0 by omega)
  have r1 := Int.emod_lt_of_pos (x - w) (show (0 : Int) < (Int.lcm p.1 q.1 : Int) by omega)
  have rd := Int.emod_add_mul_ediv (x - w) (Int.lcm p.1 q.1 : Int)
  unfold fm
  refine ⟨by omega, by omega, bo_step h.2.2 ?_⟩
  refine ⟨-((x - w) / (Int.lcm p.1 q.1 : Int)), ?_⟩
  rw [Int.mul_neg]
  omega
theorem fm_isF {p q : Int × Int} (hp : PairOk p) (hq : PairOk q) {x : Int} (h : IsX p q x) : IsF p q (fm (Int.lcm p.1 q.1) x (bg p q)) := fm_bo hp hq h
/-- later on -/
theorem fm_later {p q : Int × Int} (hp : PairOk p) (hq : PairOk q) {x f t : Int} (h : IsX p q x) (hf : IsF p q f) : fm (Int.lcm p.1 q.1) x (max t (bg p q)) = if t ≤ f then f else f + (Int.lcm p.1 q.1 : Int) * (0 - (f - t) / (Int.lcm p.1 q.1 : Int)) := by
  have l0 := lcm_pos hp hq
  obtain ⟨a1, a2, a3⟩ := fm_bo hp hq (w := max t (bg p q)) h
  split
  · refine apart_eq l0 a1 a2 ?_ ?_ (bo_dvd a3 hf.2.2)
    · have := hf.1; omega
    · have := hf.2.1; omega
  · rename_i z
    have rd := Int.emod_add_mul_ediv (f - t) (Int.lcm p.1 q.1 : Int)
    have r0 := Int.emod_nonneg (f - t) (show ((Int.lcm p.1 q.1 : Nat) : Int) ≠ 0 by omega)
    have r1 := Int.emod_lt_of_pos (f - t) (show (0 : Int) < (Int.lcm p.1 q.1 : Int) by omega)
    have e : f + (Int.lcm p.1 q.1 : Int) * (0 - (f - t) / (Int.lcm p.1 q.1 : Int)) = t + (f - t) % (Int.lcm p.1 q.1 : Int) := by
      rw [Int.mul_sub, Int.mul_zero]
      omega
    rw [e]
    have f1 := hf.1
    refine apart_eq l0 a1 a2 (by omega) (by omega) (bo_dvd a3 (bo_step hf.2.2 ?_))
    refine ⟨-((f - t) / (Int.lcm p.1 q.1 : Int)), ?_⟩
    rw [Int.mul_neg]
    omega
/-- common ones are there exactly if the rests allow it -/
theorem bo_div {p q : Int × Int} {t : Int} (h : Bo p q t) : Div p q := by
  obtain ⟨d1, d2⟩ := gcd_dvds p.1 q.1
  have a := Int.dvd_trans d1 (dvd_of_mod h.1)
  have b := Int.dvd_trans d2 (dvd_of_mod h.2)
  unfold Div
  refine Int.emod_eq_zero_of_dvd ?_
  rw [show q.2 - p.2 = (t - p.2) - (t - q.2) by omega]
  exact Int.dvd_sub a b
theorem div_comm {p q : Int × Int} : Div p q ↔ Div q p := by
  unfold Div
  rw [Int.gcd_comm q.1 p.1]
  constructor
  · intro h
    have := Int.dvd_neg.mpr (dvd_of_mod h)
    rw [show -(q.2 - p.2) = p.2 - q.2 by omega] at this
    exact Int.emod_eq_zero_of_dvd this
  · intro h
    have := Int.dvd_neg.mpr (dvd_of_mod h)
    rw [show -(p.2 - q.2) = q.2 - p.2 by omega] at this
    exact Int.emod_eq_zero_of_dvd this
theorem IsF.comm {p q : Int × Int} {f : Int} (h : IsF p q f) : IsF q p f := by
  obtain ⟨a, b, c, d⟩ := h
  unfold IsF bg at *
  rw [Int.max_comm q.2 p.2, Int.lcm_comm q.1 p.1]
  exact ⟨a, b, d, c⟩
/-- the first run from another one's beginning on -/
def st (N T b : Int) : Int := if b ≤ T then T else T + N * (0 - (T - b) / N)
theorem st_le {N T b : Int} (hN : 1 ≤ N) : max T b ≤ st N T b ∧ st N T b < max T b + N ∧ (st N T b - T) % N = 0 := by
  unfold st
  split
  · refine ⟨by omega, by omega, by rw [Int.sub_self]; rfl⟩
  · have rd := Int.emod_add_mul_ediv (T - b) N
    have r0 := Int.emod_nonneg (T - b) (show N ≠ 0 by omega)
    have r1 := Int.emod_lt_of_pos (T - b) (show 0 < N by omega)
    rw [Int.mul_sub, Int.mul_zero]
    refine ⟨by omega, by omega, Int.emod_eq_zero_of_dvd ⟨-((T - b) / N), ?_⟩⟩
    rw [Int.mul_neg]
    omega
/-- gone through run by run -/
theorem gone_isF {p q : Int × Int} (hp : PairOk p) (hq : PairOk q) {k : Nat} (h : FirstK (st p.1 p.2 q.2) p.1 q.2 q.1 1 k) : IsF p q (st p.1 p.2 q.2 + p.1 * k) := by
  obtain ⟨s1, s2, s3⟩ := st_le (N := p.1) (T := p.2) (b := q.2) hp.1
  obtain ⟨hit, pre⟩ := h
  have q0 := hq.1
  have z0 := Int.emod_nonneg (st p.1 p.2 q.2 + p.1 * k - q.2) (show q.1 ≠ 0 by omega)
  have hz : (st p.1 p.2 q.2 + p.1 * k - q.2) % q.1 = 0 := by
    unfold Hit at hit
    omega
  have k0 : 0 ≤ p.1 * (k : Int) := Int.mul_nonneg (by have := hp.1; omega) (by omega)
  have bo : Bo p q (st p.1 p.2 q.2 + p.1 * k) := by
    refine ⟨Int.emod_eq_zero_of_dvd ?_, hz⟩
    rw [show st p.1 p.2 q.2 + p.1 * (k : Int) - p.2 = (st p.1 p.2 q.2 - p.2) + p.1 * (k : Int) by omega]
    exact Int.dvd_add (dvd_of_mod s3) (Int.dvd_mul_right ..)
  refine ⟨by unfold bg; omega, ?_, bo⟩
  rcases Int.lt_or_le (st p.1 p.2 q.2 + p.1 * k) (bg p q + (Int.lcm p.1 q.1 : Int)) with z | z
  · exact z
  · exfalso
    have l0 := lcm_pos hp hq
    have bo2 : Bo p q (st p.1 p.2 q.2 + p.1 * k - (Int.lcm p.1 q.1 : Int)) := bo_step bo ⟨-1, by omega⟩
    obtain ⟨j, hj⟩ : p.1 ∣ (st p.1 p.2 q.2 + p.1 * k - (Int.lcm p.1 q.1 : Int)) - st p.1 p.2 q.2 := by
      have d := Int.dvd_lcm_left p.1 q.1
      rw [show st p.1 p.2 q.2 + p.1 * (k : Int) - (Int.lcm p.1 q.1 : Int) - st p.1 p.2 q.2 = p.1 * (k : Int) - (Int.lcm p.1 q.1 : Int) by omega]
      exact Int.dvd_sub (Int.dvd_mul_right ..) d
    have p1 := hp.1
    have j0 : 0 ≤ j := by
      rcases Int.lt_or_le j 0 with w | w
      · have : p.1 * j ≤ p.1 * (-1) := Int.mul_le_mul_of_nonneg_left (by omega) (by omega)
        unfold bg at z
        omega
      · exact w
    have jk : j < k := by
      rcases Int.lt_or_le j k with w | w
      · exact w
      · have : p.1 * (k : Int) ≤ p.1 * j := Int.mul_le_mul_of_nonneg_left w (by omega)
        omega
    refine pre j.toNat (by omega) ?_
    unfold Hit
    rw [show ((j.toNat : Nat) : Int) = j by omega, show st p.1 p.2 q.2 + p.1 * j - q.2 = (st p.1 p.2 q.2 + p.1 * k - (Int.lcm p.1 q.1 : Int)) - q.2 by omega, bo2.2]
    decide
theorem gone_ex {p q : Int × Int} (hp : PairOk p) (hq : PairOk q) (h : Div p q) : ∃ k : Nat, FirstK (st p.1 p.2 q.2) p.1 q.2 q.1 1 k ∧ (k : Int) < q.1 := by
  obtain ⟨s1, s2, s3⟩ := st_le (N := p.1) (T := p.2) (b := q.2) hp.1
  have p1 := hp.1
  have q1 := hq.1
  have g0 := gcd_pos' (m := q.1) p1
  have hr : (st p.1 p.2 q.2 - q.2) % (Int.gcd p.1 q.1 : Int) < 1 := by
    have : (st p.1 p.2 q.2 - q.2) % (Int.gcd p.1 q.1 : Int) = 0 := by
      refine Int.emod_eq_zero_of_dvd ?_
      rw [show st p.1 p.2 q.2 - q.2 = (st p.1 p.2 q.2 - p.2) - (q.2 - p.2) by omega]
      exact Int.dvd_sub (Int.dvd_trans (gcd_dvds p.1 q.1).1 (dvd_of_mod s3)) (dvd_of_mod h)
    omega
  obtain ⟨k, hk, kl⟩ := hit_ex p1 q1 hr
  have := Int.ediv_le_self (Int.gcd p.1 q.1 : Int) (show 0 ≤ q.1 by omega)
  exact ⟨k, hk, by omega⟩
end K11
namespace K11
open PySem PySem.Spec AA
open L2 (FnScope defScope defBody)
open K10 (gcd_pos' gcd_turn dvd_of_mod)

abbrev pw : Program := PySem.Challenge.pw_againandagain_k11_whole_jobs_of_each_so
def top (i : Nat) : Stmt := pw.main.body.getD i (.Pass ⟨0, 0, 0, 0⟩)
def cst : List (Str × D) := [("LETTERS", (.str "abcdefghijklmnopqrstuvwxyz")), ("FIGURES", (.str "0123456789")), ("MOST_SIGNS", (.int 8)), ("DAYS", (.int 146097)), ("MINUTES", (.int 1440)), ("FIRST_YEAR", (.int 2000)), ("LAST_YEAR", (.int 2399)), ("MONTHS", (.int 12)), ("FIRST_WEEKDAY", (.int 6)), ("LENGTHS", (.tup [(.int 31), (.int 28), (.int 31), (.int 30), (.int 31), (.int 30), (.int 31), (.int 31), (.int 30), (.int 31), (.int 30), (.int 31)])), ("JOB", (.str "job")), ("TAKES", (.str "takes")), ("AT", (.str "at")), ("OR", (.str "or")), ("EACH", (.str "each")), ("FROM", (.str "from")), ("STAR", (.str "*")), ("MOST_JOBS", (.int 12)), ("MOST_EACH", (.int 999999)), ("LAST_TIME", (.int 210379679)), ("FIELDS", (.tup [(.tup [(.int 0), (.int 59)]), (.tup [(.int 0), (.int 23)]), (.tup [(.int 1), (.int 31)]), (.tup [(.int 1), (.int 12)]), (.tup [(.int 0), (.int 6)])])), ("MEET", (.str "meet")), ("APART", (.str "apart")), ("RESTS", (.str "rests")), ("LATE", (.str "late")), ("MINUTE_WORD", (.str "minutes")), ("DAY_WORD", (.str "days"))]
def cls : List Str := ["JobError", "BadRules", "BadTime", "NoJob", "NoRules"]
def sub : Nat → Nat → Bool := fun c d => [(0, 0), (1, 0), (1, 1), (2, 0), (2, 2), (3, 0), (3, 3), (4, 0), (4, 4)].contains (c, d)
def Bis_integer : Ss := (.cons (.ret (.and_ (.isi (.var 0) .int) (.not_ (.isi (.var 0) .bool)))) .nil)
def Nis_integer : List Str := ["value"]
def Bis_between : Ss := (.cons (.ret (.and_ (.call 0 (.cons (.var 0) .nil)) (.chain .le .le (.var 1) (.var 0) (.var 2)))) .nil)
def Nis_between : List Str := ["value", "least", "most"]
def Bis_name : Ss := (.cons (.if_ (.or_ (.not_ (.isi (.var 0) .str)) (.or_ (.not_ (.chain .lt .le (.int 0) (.bi .len (.cons (.var 0) .nil)) (.cst 2))) (.cmp .notin (.idx (.var 0) (.int 0)) (.cst 0)))) (.cons (.ret (.bl false)) .nil) .nil) (.cons (.ret (.bi .all (.cons (.comp false [("sign", 1)] (.nm 1) (.chr (.var 0)) .no (.or_ (.cmp .inn (.var 1) (.cst 0)) (.cmp .inn (.var 1) (.cst 1)))) .nil))) .nil))
def Nis_name : List Str := ["value", "sign"]
def Bread_integer : Ss := (.cons (.asg (.nm 1) (.ife (.cmp .eq (.slc (.var 0) .no (.so (.int 1))) (.str "-")) (.slc (.var 0) (.so (.int 1)) .no) (.var 0))) (.cons (.if_ (.or_ (.cmp .eq (.var 1) (.str "")) (.or_ (.cmp .gt (.bi .len (.cons (.var 1) .nil)) (.int 9)) (.not_ (.bi .all (.cons (.comp false [("sign", 2)] (.nm 2) (.chr (.var 1)) .no (.cmp .inn (.var 2) (.cst 1))) .nil))))) (.cons (.ret .non) .nil) .nil) (.cons (.asg (.nm 3) (.bi .int (.cons (.var 0) .nil))) (.cons (.ret (.ife (.cmp .eq (.bi .str (.cons (.var 3) .nil)) (.var 0)) (.var 3) .non)) .nil))))
def Nread_integer : List Str := ["word", "figures", "sign", "number"]
def Bcommon : Ss := (.cons (.while_ (.cmp .ne (.var 1) (.int 0)) (.cons (.par 0 1 (.var 1) (.bin .mod (.var 0) (.var 1))) .nil)) (.cons (.ret (.bi .abs (.cons (.var 0) .nil))) .nil))
def Ncommon : List Str := ["one", "other"]
def Bis_time : Ss := (.cons (.ret (.call 1 (.cons (.var 0) (.cons (.int 0) (.cons (.bin .sub (.bin .mul (.cst 3) (.cst 4)) (.int 1)) .nil))))) .nil)
def Nis_time : List Str := ["value"]
def Bcheck_time : Ss := (.cons (.if_ (.not_ (.call 5 (.cons (.var 0) .nil))) (.cons (.rs 2 (.var 0)) .nil) .nil) .nil)
def Ncheck_time : List Str := ["time"]
def Bis_long_year : Ss := (.cons (.ret (.or_ (.and_ (.cmp .eq (.bin .mod (.var 0) (.int 4)) (.int 0)) (.cmp .ne (.bin .mod (.var 0) (.int 100)) (.int 0))) (.cmp .eq (.bin .mod (.var 0) (.int 400)) (.int 0)))) .nil)
def Nis_long_year : List Str := ["year"]
def Bdays_in : Ss := (.cons (.ret (.bin .add (.idx (.cst 9) (.bin .sub (.var 1) (.int 1))) (.bi .int (.cons (.and_ (.cmp .eq (.var 1) (.int 2)) (.call 7 (.cons (.var 0) .nil))) .nil)))) .nil)
def Ndays_in : List Str := ["year", "month"]
def Bdays_ahead : Ss := (.cons (.asg (.nm 1) (.bin .sub (.var 0) (.int 1))) (.cons (.asg (.nm 2) (.bin .sub (.cst 5) (.int 1))) (.cons (.asgc 3 (.comp false [("by", 4)] (.nm 4) (.seq (.tup (.cons (.int 4) (.cons (.int 100) (.cons (.int 400) .nil))))) .no (.bin .sub (.bin .fdiv (.var 1) (.var 4)) (.bin .fdiv (.var 2) (.var 4))))) (.cons (.ret (.bin .add (.bin .sub (.bin .add (.bin .mul (.int 365) (.bin .sub (.var 0) (.cst 5))) (.idx (.var 3) (.int 0))) (.idx (.var 3) (.int 1))) (.idx (.var 3) (.int 2)))) .nil))))
def Ndays_ahead : List Str := ["year", "past", "since", "gained", "by"]
def Bdate_by : Ss := (.cons (.asg (.nm 1) (.bin .add (.cst 5) (.bin .fdiv (.var 0) (.int 366)))) (.cons (.while_ (.and_ (.cmp .lt (.var 1) (.cst 6)) (.cmp .le (.call 9 (.cons (.bin .add (.var 1) (.int 1)) .nil)) (.var 0))) (.cons (.asg (.nm 1) (.bin .add (.var 1) (.int 1))) .nil)) (.cons (.par 2 3 (.bin .sub (.var 0) (.call 9 (.cons (.var 1) .nil))) (.int 1)) (.cons (.while_ (.cmp .ge (.var 2) (.call 8 (.cons (.var 1) (.cons (.var 3) .nil)))) (.cons (.par 2 3 (.bin .sub (.var 2) (.call 8 (.cons (.var 1) (.cons (.var 3) .nil)))) (.bin .add (.var 3) (.int 1))) .nil)) (.cons (.ret (.tup (.cons (.var 1) (.cons (.var 3) (.cons (.bin .add (.var 2) (.int 1)) .nil))))) .nil)))))
def Ndate_by : List Str := ["day", "year", "rest", "month"]
def Bweekday_by : Ss := (.cons (.ret (.bin .mod (.bin .add (.var 0) (.cst 8)) (.int 7))) .nil)
def Nweekday_by : List Str := ["day"]
def Bread_part : Ss := (.cons (.asg (.nm 3) (.split (.var 0) (.str "/"))) (.cons (.asgc 4 (.comp false [("piece", 5)] (.nm 5) (.seq (.split (.idx (.var 3) (.int 0)) (.str "-"))) .no (.call 3 (.cons (.var 5) .nil)))) (.cons (.asg (.nm 6) (.ife (.cmp .eq (.bi .len (.cons (.var 3) .nil)) (.int 2)) (.call 3 (.cons (.idx (.var 3) (.int 1)) .nil)) (.int 1))) (.cons (.if_ (.or_ (.cmp .gt (.bi .len (.cons (.var 3) .nil)) (.int 2)) (.or_ (.cmp .gt (.bi .len (.cons (.var 4) .nil)) (.int 2)) (.or_ (.cmp .inn .non (.var 4)) (.cmp .is (.var 6) .non)))) (.cons (.ret .non) .nil) .nil) (.cons (.if_ (.and_ (.cmp .eq (.bi .len (.cons (.var 3) .nil)) (.int 2)) (.or_ (.cmp .ne (.bi .len (.cons (.var 4) .nil)) (.int 2)) (.not_ (.chain .le .le (.int 2) (.var 6) (.int 59))))) (.cons (.ret .non) .nil) .nil) (.cons (.if_ (.or_ (.not_ (.bi .all (.cons (.comp false [("end", 7)] (.nm 7) (.seq (.var 4)) .no (.chain .le .le (.var 1) (.var 7) (.var 2))) .nil))) (.and_ (.cmp .eq (.bi .len (.cons (.var 4) .nil)) (.int 2)) (.cmp .ge (.idx (.var 4) (.int 0)) (.idx (.var 4) (.int 1))))) (.cons (.ret .non) .nil) .nil) (.cons (.ret (.lst3 false (.idx (.var 4) (.int 0)) (.bin .add (.idx (.var 4) (.neg (.int 1))) (.int 1)) (.var 6))) .nil)))))))
def Nread_part : List Str := ["word", "least", "most", "pieces", "ends", "piece", "step", "end"]
def Bread_field : Ss := (.cons (.if_ (.cmp .eq (.var 0) (.cst 16)) (.cons (.ret (.tupr (.var 1) (.bin .add (.var 2) (.int 1)))) .nil) .nil) (.cons (.asg (.nm 3) (.lst true .nil)) (.cons (.for_ (.nm 4) (.seq (.split (.var 0) (.str ","))) (.cons (.asg (.nm 5) (.call 12 (.cons (.var 4) (.cons (.var 1) (.cons (.var 2) .nil))))) (.cons (.if_ (.cmp .is (.var 5) .non) (.cons (.ret .non) .nil) .nil) (.cons (.ex (.ext (.var 3) (.var 5))) .nil)))) (.cons (.ret (.bi .tuple (.cons (.sset (.var 3)) .nil))) .nil))))
def Nread_field : List Str := ["word", "least", "most", "found", "part", "some"]
def Bread_number : Ss := (.cons (.asg (.nm 3) (.call 3 (.cons (.var 0) .nil))) (.cons (.ret (.ife (.and_ (.cmp .isnot (.var 3) .non) (.chain .le .le (.var 1) (.var 3) (.var 2))) (.var 3) .non)) .nil))
def Nread_number : List Str := ["word", "least", "most", "number"]
def Bcheck_rules : Ss := (.cons (.if_ (.not_ (.isin (.var 0) 1001)) (.cons (.rs 4 (.var 0)) .nil) .nil) .nil)
def Ncheck_rules : List Str := ["rules"]
def BRules_jobs : Ss := (.cons (.ret (.attr (.var 0) "own_jobs")) .nil)
def NRules_jobs : List Str := ["self"]
def Bcheck_job : Ss := (.cons (.ex (.call 15 (.cons (.var 0) .nil))) (.cons (.if_ (.or_ (.not_ (.isi (.var 1) .str)) (.cmp .notin (.var 1) (.prop 16 (.var 0)))) (.cons (.rs 3 (.var 1)) .nil) .nil) .nil))
def Ncheck_job : List Str := ["rules", "job"]
def BRules_rule_of : Ss := (.cons (.ret (.idx (.attr (.var 0) "own_rules") (.var 1))) .nil)
def NRules_rule_of : List Str := ["self", "job"]
def BRules_stars_of : Ss := (.cons (.ret (.idx (.attr (.var 0) "own_stars") (.var 1))) .nil)
def NRules_stars_of : List Str := ["self", "job"]
def Bfits_in : Ss := (.cons (.asg (.tp (.cons (.nm 5) (.cons (.nm 6) (.cons (.nm 7) (.cons (.nm 8) (.cons (.nm 9) (.cons (.nm 10) .nil))))))) (.mcall 18 (.var 0) (.cons (.var 1) .nil))) (.cons (.if_ (.cmp .notin (.var 2) (.var 9)) (.cons (.ret (.bl false)) .nil) .nil) (.cons (.par 11 12 (.cmp .inn (.var 3) (.var 8)) (.cmp .inn (.var 4) (.var 10))) (.cons (.asg (.tp (.cons (.nm 13) (.cons (.nm 14) .nil))) (.mcall 19 (.var 0) (.cons (.var 1) .nil))) (.cons (.if_ (.or_ (.cmp .eq (.var 5) (.cst 12)) (.or_ (.var 13) (.var 14))) (.cons (.ret (.and_ (.var 11) (.var 12))) .nil) .nil) (.cons (.ret (.or_ (.var 11) (.var 12))) .nil))))))
def Nfits_in : List Str := ["rules", "job", "month", "number", "weekday", "word", "minutes", "hours", "days", "months", "weekdays", "one", "other", "starred", "also"]
def Bby_hours : Ss := (.cons (.asg (.nm 2) (.lst true .nil)) (.cons (.for_ (.nm 3) (.seq (.var 0)) (.cons (.ex (.ext (.var 2) (.comp true [("minute", 4)] (.nm 4) (.seq (.var 1)) .no (.bin .add (.bin .mul (.int 60) (.var 3)) (.var 4))))) .nil)) (.cons (.ret (.var 2)) .nil)))
def Nby_hours : List Str := ["hours", "minutes", "found", "hour", "minute"]
def Bminutes_of : Ss := (.cons (.asg (.tp (.cons (.nm 2) (.cons (.nm 3) (.cons (.nm 4) (.cons (.nm 5) (.cons (.nm 6) (.cons (.nm 7) .nil))))))) (.mcall 18 (.var 0) (.cons (.var 1) .nil))) (.cons (.ret (.call 21 (.cons (.var 4) (.cons (.var 3) .nil)))) .nil))
def Nminutes_of : List Str := ["rules", "job", "word", "minutes", "hours", "days", "months", "weekdays"]
def Bis_each : Ss := (.cons (.ret (.cmp .eq (.idx (.mcall 18 (.var 0) (.cons (.var 1) .nil)) (.int 0)) (.cst 14))) .nil)
def Nis_each : List Str := ["rules", "job"]
def Blengths_of : Ss := (.cons (.ret (.ife (.cmp .eq (.var 0) (.int 2)) (.lst false (.cons (.idx (.cst 9) (.bin .sub (.var 0) (.int 1))) (.cons (.bin .add (.idx (.cst 9) (.bin .sub (.var 0) (.int 1))) (.int 1)) .nil))) (.lst false (.cons (.idx (.cst 9) (.bin .sub (.var 0) (.int 1))) .nil)))) .nil)
def Nlengths_of : List Str := ["month"]
def Btold_never : Ss := (.cons (.if_ (.call 23 (.cons (.var 0) (.cons (.var 1) .nil))) (.cons (.ret .non) .nil) .nil) (.cons (.asg (.tp (.cons (.nm 2) (.cons (.nm 3) (.cons (.nm 4) (.cons (.nm 5) (.cons (.nm 6) (.cons (.nm 7) .nil))))))) (.mcall 18 (.var 0) (.cons (.var 1) .nil))) (.cons (.asgc 8 (.comp false [("month", 9)] (.nm 9) (.seq (.var 6)) .no (.tup (.cons (.var 9) (.cons (.idx (.call 24 (.cons (.var 9) .nil)) (.neg (.int 1))) .nil))))) (.cons (.asg (.nm 10) (.or_ (.cmp .eq (.var 2) (.cst 12)) (.idx (.mcall 19 (.var 0) (.cons (.var 1) .nil)) (.int 1)))) (.cons (.if_ (.and_ (.var 10) (.bi .all (.cons (.comp false [("month", 9), ("long", 11)] (.tp (.cons (.nm 9) (.cons (.nm 11) .nil))) (.seq (.var 8)) .no (.cmp .lt (.var 11) (.idx (.var 5) (.int 0)))) .nil))) (.cons (.ret (.bi .tuple (.cons (.var 8) .nil))) .nil) .nil) (.cons (.ret .non) .nil))))))
def Ntold_never : List Str := ["rules", "job", "word", "minutes", "hours", "days", "months", "weekdays", "rows", "month", "is_by_days", "long"]
def Binverse : Ss := (.cons (.asg (.tp (.cons (.nm 2) (.cons (.nm 3) (.cons (.nm 4) (.cons (.nm 5) .nil))))) (.tup (.cons (.bin .mod (.var 0) (.var 1)) (.cons (.var 1) (.cons (.int 1) (.cons (.int 0) .nil)))))) (.cons (.while_ (.cmp .gt (.var 2) (.int 1)) (.cons (.asg (.nm 6) (.bin .fdiv (.var 3) (.var 2))) (.cons (.asg (.tp (.cons (.nm 2) (.cons (.nm 3) (.cons (.nm 4) (.cons (.nm 5) .nil))))) (.tup (.cons (.bin .sub (.var 3) (.bin .mul (.var 6) (.var 2))) (.cons (.var 2) (.cons (.bin .sub (.var 5) (.bin .mul (.var 6) (.var 4))) (.cons (.var 4) .nil)))))) .nil))) (.cons (.ret (.bin .mod (.var 4) (.var 1))) .nil)))
def Ninverse : List Str := ["number", "round_of", "one", "other", "here", "there", "times"]
def Bput_together : Ss := (.cons (.asg (.nm 2) (.call 4 (.cons (.idx (.var 0) (.int 0)) (.cons (.idx (.var 1) (.int 0)) .nil)))) (.cons (.if_ (.cmp .ne (.bin .mod (.bin .sub (.idx (.var 1) (.int 1)) (.idx (.var 0) (.int 1))) (.var 2)) (.int 0)) (.cons (.ret .non) .nil) .nil) (.cons (.par 3 4 (.bin .fdiv (.bin .sub (.idx (.var 1) (.int 1)) (.idx (.var 0) (.int 1))) (.var 2)) (.bin .fdiv (.idx (.var 1) (.int 0)) (.var 2))) (.cons (.asg (.nm 5) (.bin .mod (.bin .mul (.var 3) (.call 26 (.cons (.bin .fdiv (.idx (.var 0) (.int 0)) (.var 2)) (.cons (.var 4) .nil)))) (.var 4))) (.cons (.asg (.nm 6) (.bin .mul (.idx (.var 0) (.int 0)) (.var 4))) (.cons (.ret (.tup (.cons (.var 6) (.cons (.bin .mod (.bin .add (.idx (.var 0) (.int 1)) (.bin .mul (.idx (.var 0) (.int 0)) (.var 5))) (.var 6)) .nil)))) .nil))))))
def Nput_together : List Str := ["one", "other", "factor", "steps", "wide", "many", "whole"]
def Ball_together : Ss := (.cons (.asg (.nm 1) (.tup (.cons (.int 1) (.cons (.int 0) .nil)))) (.cons (.for_ (.nm 2) (.seq (.var 0)) (.cons (.asg (.nm 1) (.ife (.cmp .is (.var 1) .non) .non (.call 27 (.cons (.var 1) (.cons (.var 2) .nil))))) .nil)) (.cons (.ret (.var 1)) .nil)))
def Nall_together : List Str := ["rests", "found", "pair"]
def Bcheck_two : Ss := (.cons (.ex (.call 17 (.cons (.var 0) (.cons (.var 1) .nil)))) (.cons (.ex (.call 17 (.cons (.var 0) (.cons (.var 2) .nil)))) .nil))
def Ncheck_two : List Str := ["rules", "one", "other"]
def Bwhy_apart : Ss := (.cons (.asg (.nm 3) (.comp false [("job", 4)] (.nm 4) (.seq (.tup (.cons (.var 1) (.cons (.var 2) .nil)))) (.so (.call 23 (.cons (.var 0) (.cons (.var 4) .nil)))) (.mcall 18 (.var 0) (.cons (.var 4) .nil)))) (.cons (.if_ (.cmp .eq (.bi .len (.cons (.var 3) .nil)) (.int 2)) (.cons (.asg (.nm 5) (.call 4 (.cons (.idx (.idx (.var 3) (.int 0)) (.int 1)) (.cons (.idx (.idx (.var 3) (.int 1)) (.int 1)) .nil)))) (.cons (.ret (.ife (.cmp .eq (.bin .mod (.bin .sub (.idx (.idx (.var 3) (.int 0)) (.int 2)) (.idx (.idx (.var 3) (.int 1)) (.int 2))) (.var 5)) (.int 0)) (.cst 24) (.cst 23))) .nil)) .nil) (.cons (.asgc 6 (.comp false [("job", 4)] (.nm 4) (.seq (.tup (.cons (.var 1) (.cons (.var 2) .nil)))) (.so (.not_ (.call 23 (.cons (.var 0) (.cons (.var 4) .nil))))) (.var 4))) (.cons (.if_ (.cmp .eq (.bi .len (.cons (.var 3) .nil)) (.int 1)) (.cons (.asg (.nm 5) (.call 4 (.cons (.idx (.idx (.var 3) (.int 0)) (.int 1)) (.cons (.cst 4) .nil)))) (.cons (.asgc 7 (.comp false [("minute", 8)] (.nm 8) (.seq (.call 22 (.cons (.var 0) (.cons (.idx (.var 6) (.int 0)) .nil)))) (.so (.cmp .eq (.bin .mod (.bin .sub (.var 8) (.idx (.idx (.var 3) (.int 0)) (.int 2))) (.var 5)) (.int 0))) (.var 8))) (.cons (.ret (.ife (.cmp .eq (.var 7) (.lst false .nil)) (.cst 23) (.cst 24))) .nil))) .nil) (.cons (.asgc 9 (.comp false [("minute", 8)] (.nm 8) (.seq (.call 22 (.cons (.var 0) (.cons (.var 1) .nil)))) (.so (.cmp .inn (.var 8) (.call 22 (.cons (.var 0) (.cons (.var 2) .nil))))) (.var 8))) (.cons (.ret (.ife (.cmp .eq (.var 9) (.lst false .nil)) (.cst 25) (.cst 26))) .nil))))))
def Nwhy_apart : List Str := ["rules", "one", "other", "each", "job", "factor", "fields", "some", "minute", "both"]
def BMeeting_days_from : Ss := (.cons (.asg (.nm 4) (.lst true .nil)) (.cons (.for_ (.nm 5) (.rng1 (.call 8 (.cons (.var 1) (.cons (.var 2) .nil)))) (.cons (.asg (.nm 6) (.call 11 (.cons (.bin .add (.var 3) (.var 5)) .nil))) (.cons (.if_ (.bi .all (.cons (.comp false [("job", 7)] (.nm 7) (.seq (.attr (.var 0) "own_fields")) .no (.call 20 (.cons (.attr (.var 0) "own_rules") (.cons (.var 7) (.cons (.var 2) (.cons (.bin .add (.var 5) (.int 1)) (.cons (.var 6) .nil))))))) .nil)) (.cons (.ex (.app (.var 4) (.bin .add (.var 3) (.var 5)))) .nil) .nil) .nil))) (.cons (.ret (.var 4)) .nil)))
def NMeeting_days_from : List Str := ["self", "year", "month", "begin", "found", "at", "weekday", "job"]
def BMeeting_minutes_on : Ss := (.cons (.asg (.tp (.cons (.nm 2) (.cons (.nm 3) .nil))) (.attr (.var 0) "own_rest")) (.cons (.ret (.dget (.attr (.var 0) "own_by_rest") (.bin .mod (.bin .sub (.var 3) (.bin .mul (.var 1) (.cst 4))) (.var 2)) (.lst true .nil))) .nil))
def NMeeting_minutes_on : List Str := ["self", "day", "round_of", "rest"]
def BMeeting_first : Ss := (.cons (.asg (.nm 1) (.bi .max2 (.cons (.var 1) (.cons (.attr (.var 0) "own_begin") .nil)))) (.cons (.if_ (.or_ (.not_ (.attr (.var 0) "own_is_ever")) (.cmp .gt (.var 1) (.cst 19))) (.cons (.ret .non) .nil) .nil) (.cons (.if_ (.cmp .eq (.attr (.var 0) "own_fields") (.lst false .nil)) (.cons (.asg (.tp (.cons (.nm 2) (.cons (.nm 3) .nil))) (.attr (.var 0) "own_rest")) (.cons (.asg (.nm 4) (.bin .add (.var 1) (.bin .mod (.bin .sub (.var 3) (.var 1)) (.var 2)))) (.cons (.ret (.ife (.cmp .le (.var 4) (.cst 19)) (.var 4) .non)) .nil))) .nil) (.cons (.asg (.tp (.cons (.nm 5) (.cons (.nm 6) (.cons (.nm 7) .nil)))) (.call 10 (.cons (.bin .fdiv (.var 1) (.cst 4)) .nil))) (.cons (.asg (.nm 8) (.bin .add (.bin .sub (.bin .fdiv (.var 1) (.cst 4)) (.var 7)) (.int 1))) (.cons (.while_ (.cmp .le (.var 5) (.cst 6)) (.cons (.for_ (.nm 9) (.seq (.mcall 31 (.var 0) (.cons (.var 5) (.cons (.var 6) (.cons (.var 8) .nil))))) (.cons (.asgc 10 (.comp false [("minute", 11)] (.nm 11) (.seq (.mcall 32 (.var 0) (.cons (.var 9) .nil))) (.so (.cmp .ge (.bin .add (.bin .mul (.var 9) (.cst 4)) (.var 11)) (.var 1))) (.var 11))) (.cons (.if_ (.cmp .ne (.var 10) (.lst false .nil)) (.cons (.ret (.bin .add (.bin .mul (.var 9) (.cst 4)) (.idx (.var 10) (.int 0)))) .nil) .nil) .nil))) (.cons (.asg (.nm 8) (.bin .add (.var 8) (.call 8 (.cons (.var 5) (.cons (.var 6) .nil))))) (.cons (.par 5 6 (.bin .add (.var 5) (.bin .fdiv (.var 6) (.cst 7))) (.bin .add (.bin .mod (.var 6) (.cst 7)) (.int 1))) .nil)))) (.cons (.ret .non) .nil)))))))
def NMeeting_first : List Str := ["self", "time", "round_of", "rest", "found", "year", "month", "number", "begin", "day", "some", "minute"]
def BMeeting_by_rest : Ss := (.cons (.asg (.nm 1) .dnew) (.cons (.if_ (.attr (.var 0) "own_is_ever") (.cons (.for_ (.nm 2) (.seq (.attr (.var 0) "own_minutes")) (.cons (.asg (.nm 3) (.bin .mod (.var 2) (.idx (.attr (.var 0) "own_rest") (.int 0)))) (.cons (.seti (.var 1) (.var 3) (.catl true (.dget (.var 1) (.var 3) (.lst true .nil)) (.lst true (.cons (.var 2) .nil)))) .nil))) .nil) .nil) (.cons (.ret (.var 1)) .nil)))
def NMeeting_by_rest : List Str := ["self", "found", "minute", "rest"]
def BMeeting___init__ : Ss := (.cons (.asgc 3 (.comp false [("job", 4)] (.nm 4) (.seq (.var 2)) (.so (.call 23 (.cons (.var 1) (.cons (.var 4) .nil)))) (.mcall 18 (.var 1) (.cons (.var 4) .nil)))) (.cons (.sattr (.var 0) "own_rules" (.var 1)) (.cons (.sattr (.var 0) "own_fields" (.comp true [("job", 4)] (.nm 4) (.seq (.var 2)) (.so (.not_ (.call 23 (.cons (.var 1) (.cons (.var 4) .nil))))) (.var 4))) (.cons (.sattr (.var 0) "own_rest" (.call 28 (.cons (.comp false [("row", 5)] (.nm 5) (.seq (.var 3)) .no (.tup (.cons (.idx (.var 5) (.int 1)) (.cons (.idx (.var 5) (.int 2)) .nil)))) .nil))) (.cons (.sattr (.var 0) "own_begin" (.bi .max1 (.cons (.catl false (.lst true (.cons (.int 0) .nil)) (.comp true [("row", 5)] (.nm 5) (.seq (.var 3)) .no (.idx (.var 5) (.int 2)))) .nil))) (.cons (.sattr (.var 0) "own_minutes" (.lsti true (.int 0) (.cst 4))) (.cons (.for_ (.nm 4) (.seq (.attr (.var 0) "own_fields")) (.cons (.asg (.nm 6) .nop) (.cons (.sattr (.var 0) "own_minutes" (.comp true [("minute", 7)] (.nm 7) (.seq (.attr (.var 0) "own_minutes")) (.so (.cmp .inn (.var 7) (.var 6))) (.var 7))) .nil))) (.cons (.asgc 8 (.comp false [("job", 4)] (.nm 4) (.seq (.attr (.var 0) "own_fields")) (.so (.cmp .isnot (.call 25 (.cons (.var 1) (.cons (.var 4) .nil))) .non)) (.var 4))) (.cons (.sattr (.var 0) "own_is_ever" (.and_ (.cmp .isnot (.attr (.var 0) "own_rest") .non) (.and_ (.cmp .ne (.attr (.var 0) "own_minutes") (.lst false .nil)) (.cmp .eq (.var 8) (.lst false .nil))))) (.cons (.sattr (.var 0) "own_by_rest" (.mcall 34 (.var 0) .nil)) .nil))))))))))
def NMeeting___init__ : List Str := ["self", "rules", "jobs", "each", "job", "row", "own", "minute", "never"]
def Bmeet : Ss := (.cons (.ex (.call 29 (.cons (.var 0) (.cons (.var 1) (.cons (.var 2) .nil))))) (.cons (.asg (.nm 3) (.mcall 33 (.new 35 (.cons (.var 0) (.cons (.tup (.cons (.var 1) (.cons (.var 2) .nil))) .nil))) (.cons (.int 0) .nil))) (.cons (.ret (.ife (.cmp .is (.var 3) .non) (.tup (.cons (.cst 22) (.cons (.call 30 (.cons (.var 0) (.cons (.var 1) (.cons (.var 2) .nil)))) .nil))) (.tup (.cons (.cst 21) (.cons (.var 3) .nil))))) .nil)))
def Nmeet : List Str := ["rules", "one", "other", "found"]
def Bnext_meet : Ss := (.cons (.ex (.call 29 (.cons (.var 0) (.cons (.var 1) (.cons (.var 2) .nil))))) (.cons (.ex (.call 6 (.cons (.var 3) .nil))) (.cons (.ret (.mcall 33 (.new 35 (.cons (.var 0) (.cons (.tup (.cons (.var 1) (.cons (.var 2) .nil))) .nil))) (.cons (.var 3) .nil))) .nil)))
def Nnext_meet : List Str := ["rules", "one", "other", "time"]
def BMeeting_behind : Ss := (.cons (.ret (.comp false [("minute", 3)] (.nm 3) (.seq (.var 2)) (.so (.cmp .ge (.bin .add (.bin .mul (.var 1) (.cst 4)) (.var 3)) (.attr (.var 0) "own_begin"))) (.var 3))) .nil)
def NMeeting_behind : List Str := ["self", "day", "some", "minute"]
def BMeeting_count : Ss := (.cons (.if_ (.not_ (.attr (.var 0) "own_is_ever")) (.cons (.ret (.int 0)) .nil) .nil) (.cons (.if_ (.cmp .eq (.attr (.var 0) "own_fields") (.lst false .nil)) (.cons (.asg (.nm 1) (.mcall 33 (.var 0) (.cons (.int 0) .nil))) (.cons (.ret (.ife (.cmp .is (.var 1) .non) (.int 0) (.bin .add (.bin .fdiv (.bin .sub (.cst 19) (.var 1)) (.idx (.attr (.var 0) "own_rest") (.int 0))) (.int 1)))) .nil)) .nil) (.cons (.asg (.tp (.cons (.nm 2) (.cons (.nm 3) (.cons (.nm 1) .nil)))) (.tup (.cons (.int 0) (.cons (.int 0) (.cons (.bin .fdiv (.attr (.var 0) "own_begin") (.cst 4)) .nil))))) (.cons (.for_ (.nm 4) (.rng2 (.cst 5) (.bin .add (.cst 6) (.int 1))) (.cons (.for_ (.nm 5) (.rng2 (.int 1) (.bin .add (.cst 7) (.int 1))) (.cons (.asgc 6 (.comp false [("day", 7)] (.nm 7) (.seq (.mcall 31 (.var 0) (.cons (.var 4) (.cons (.var 5) (.cons (.var 3) .nil))))) (.so (.cmp .ge (.var 7) (.var 1))) (.var 7))) (.cons (.for_ (.nm 7) (.seq (.var 6)) (.cons (.asg (.nm 8) (.mcall 32 (.var 0) (.cons (.var 7) .nil))) (.cons (.asg (.nm 9) (.cmp .ge (.bin .mul (.var 7) (.cst 4)) (.attr (.var 0) "own_begin"))) (.cons (.asg (.nm 2) (.bin .add (.var 2) (.ife (.var 9) (.bi .len (.cons (.var 8) .nil)) (.bi .len (.cons (.mcall 38 (.var 0) (.cons (.var 7) (.cons (.var 8) .nil))) .nil))))) .nil)))) (.cons (.asg (.nm 3) (.bin .add (.var 3) (.call 8 (.cons (.var 4) (.cons (.var 5) .nil))))) .nil)))) .nil)) (.cons (.ret (.var 2)) .nil)))))
def NMeeting_count : List Str := ["self", "first", "total", "begin", "year", "month", "some", "day", "own", "is_late"]
def Bmeetings : Ss := (.cons (.ex (.call 29 (.cons (.var 0) (.cons (.var 1) (.cons (.var 2) .nil))))) (.cons (.ret (.mcall 39 (.new 35 (.cons (.var 0) (.cons (.tup (.cons (.var 1) (.cons (.var 2) .nil))) .nil))) .nil)) .nil))
def Nmeetings : List Str := ["rules", "one", "other"]
def B_law_pot : Ss := (.cons (.asg (.nm 2) (.ife (.cmp .lt (.var 1) (.bi .len (.cons (.var 0) .nil))) (.idx (.var 0) (.var 1)) (.bin .add (.bin .add (.bin .mod (.bi .sum (.cons (.slc (.var 0) .no (.so (.int 1))) .nil)) (.int 1000003)) (.bin .mul (.int 26425) (.var 1))) (.int 8015)))) (.cons (.asg (.nm 3) (.bin .mul (.bin .mod (.bi .int (.cons (.bi .abs (.cons (.var 2) .nil)) .nil)) (.bin .pow (.bin .pow (.int 10) (.int 60)) (.int 5))) (.bi .int (.cons (.cmp .ge (.bi .abs (.cons (.var 2) .nil)) (.bin .pow (.int 10) (.int 18))) .nil)))) (.cons (.asg (.nm 4) (.bin .mod (.bi .int (.cons (.var 2) .nil)) (.int 2305843009213693951))) (.cons (.ret (.lst true (.cons (.var 3) (.cons (.bin .mod (.bi .int (.cons (.bin .add (.bin .add (.bin .mul (.var 4) (.int 110443)) (.bin .mul (.bin .mul (.int 22031) (.var 1)) (.var 1))) (.int 9715)) .nil)) (.int 2305843009213693921)) (.cons (.int 0) .nil))))) .nil))))
def N_law_pot : List Str := ["script", "place", "cell", "own", "small"]
def B_law_take : Ss := (.cons (.if_ (.cmp .gt (.idx (.var 0) (.int 0)) (.int 0)) (.cons (.asg (.nm 2) (.bin .mod (.bi .int (.cons (.idx (.var 0) (.int 0)) .nil)) (.var 1))) (.cons (.seti (.var 0) (.int 0) (.bin .fdiv (.idx (.var 0) (.int 0)) (.var 1))) (.cons (.ret (.var 2)) .nil))) .nil) (.cons (.seti (.var 0) (.int 2) (.bin .add (.idx (.var 0) (.int 2)) (.int 1))) (.cons (.asg (.nm 3) (.idx (.lst false (.cons (.int 2147483647) (.cons (.int 2147483629) (.cons (.int 2147483587) (.cons (.int 2147483579) (.cons (.int 2147483563) .nil)))))) (.bin .mod (.bi .int (.cons (.idx (.var 0) (.int 2)) .nil)) (.int 5)))) (.cons (.asg (.nm 4) (.bin .mod (.bi .int (.cons (.bin .pow (.bi .int (.cons (.bin .add (.bin .add (.idx (.var 0) (.int 1)) (.bin .mul (.bin .mul (.int 116819) (.idx (.var 0) (.int 2))) (.idx (.var 0) (.int 2)))) (.int 5105)) .nil)) (.int 3)) .nil)) (.var 3))) (.cons (.asg (.nm 4) (.bin .mod (.bi .int (.cons (.bin .mul (.var 4) (.bin .add (.bin .mod (.bi .int (.cons (.var 4) .nil)) (.int 26417)) (.bin .mul (.int 3013) (.idx (.var 0) (.int 2))))) .nil)) (.int 2305843009213693907))) (.cons (.ret (.bin .mod (.bi .int (.cons (.bin .fdiv (.var 4) (.int 7615)) .nil)) (.var 1))) .nil))))))
def N_law_take : List Str := ["pot", "upto", "digit", "prime", "blend"]
def B_law_of : Ss := (.cons (.ret (.idx (.var 1) (.call 42 (.cons (.var 0) (.cons (.bi .len (.cons (.var 1) .nil)) .nil))))) .nil)
def N_law_of : List Str := ["pot", "some"]
def B_law_cells : Ss := (.cons (.ret (.lsti false (.int 0) (.bi .max2 (.cons (.int 1) (.cons (.bi .min2 (.cons (.var 1) (.cons (.bi .len (.cons (.var 0) .nil)) .nil))) .nil))))) .nil)
def N_law_cells : List Str := ["script", "most"]
def B_law_some : Ss := (.cons (.par 3 4 (.lstm (.var 1)) (.lst true .nil)) (.cons (.for_ (.nm 5) (.rng1 (.var 2)) (.cons (.ex (.app (.var 4) (.popi (.var 3) (.call 42 (.cons (.var 0) (.cons (.bi .len (.cons (.var 3) .nil)) .nil)))))) .nil)) (.cons (.ret (.var 4)) .nil)))
def N_law_some : List Str := ["pot", "pool", "many", "rest", "found", "lap"]
def B_law_name : Ss := (.cons (.asg (.tp (.cons (.nm 2) (.cons (.nm 3) .nil))) (.tup (.cons (.str "abcdefghijklmnopqrstuvwxyz") (.cons (.str "0123456789") .nil)))) (.cons (.asg (.nm 4) (.idx (.var 2) (.call 42 (.cons (.var 0) (.cons (.int 26) .nil))))) (.cons (.for_ (.nm 5) (.rng1 (.call 42 (.cons (.var 0) (.cons (.int 8) .nil)))) (.cons (.asg (.nm 4) (.bin .add (.var 4) (.idx (.bin .add (.var 2) (.var 3)) (.call 42 (.cons (.var 0) (.cons (.int 36) .nil)))))) .nil)) (.cons (.for_ (.nm 6) (.rng1 (.bin .add (.bi .len (.cons (.var 1) .nil)) (.int 1))) (.cons (.if_ (.cmp .inn (.var 4) (.var 1)) (.cons (.asg (.nm 4) (.bin .add (.str "g") (.bi .str (.cons (.bi .int (.cons (.var 6) .nil)) .nil)))) .nil) .nil) .nil)) (.cons (.ret (.var 4)) .nil)))))
def N_law_name : List Str := ["pot", "some", "letters", "figures", "word", "lap", "at"]
def B_law_names : Ss := (.cons (.asg (.nm 2) (.call 45 (.cons (.var 0) (.cons (.lst false (.cons (.str "a") (.cons (.str "b") (.cons (.str "job") (.cons (.str "each") (.cons (.str "takes") (.cons (.str "at") .nil))))))) (.cons (.bi .min2 (.cons (.var 1) (.cons (.call 42 (.cons (.var 0) (.cons (.int 5) .nil))) .nil))) .nil))))) (.cons (.for_ (.nm 3) (.rng1 (.bin .sub (.var 1) (.bi .len (.cons (.var 2) .nil)))) (.cons (.ex (.app (.var 2) (.call 46 (.cons (.var 0) (.cons (.var 2) .nil))))) .nil)) (.cons (.ret (.bi .tuple (.cons (.call 45 (.cons (.var 0) (.cons (.var 2) (.cons (.var 1) .nil)))) .nil))) .nil)))
def N_law_names : List Str := ["pot", "many", "found", "lap"]
def B_law_common : Ss := (.cons (.for_ (.nm 2) (.rng1 (.int 200)) (.cons (.asg (.tp (.cons (.nm 0) (.cons (.nm 1) .nil))) (.ife (.cmp .gt (.var 0) (.int 0)) (.tup (.cons (.bin .mod (.var 1) (.var 0)) (.cons (.var 0) .nil))) (.tup (.cons (.var 0) (.cons (.var 1) .nil))))) .nil)) (.cons (.ret (.var 1)) .nil))
def N_law_common : List Str := ["one", "other", "lap"]
def B_law_two : Ss := (.cons (.asg (.nm 1) (.call 42 (.cons (.var 0) (.cons (.int 4) .nil)))) (.cons (.asg (.nm 2) (.ife (.cmp .gt (.var 1) (.int 0)) (.call 43 (.cons (.var 0) (.cons (.lst false (.cons (.int 1) (.cons (.int 2) (.cons (.int 5) (.cons (.int 12) (.cons (.int 60) .nil)))))) .nil))) (.bin .add (.int 1) (.call 42 (.cons (.var 0) (.cons (.int 300) .nil)))))) (.cons (.asg (.nm 3) (.idx (.lst false (.cons (.int 3000) (.cons (.int 40) (.cons (.int 1000) (.cons (.int 15000) .nil))))) (.var 1))) (.cons (.asg (.nm 4) (.lst true .nil)) (.cons (.for_ (.nm 5) (.rng1 (.int 2)) (.cons (.asg (.nm 6) (.bi .min2 (.cons (.int 999999) (.cons (.bin .mul (.var 2) (.bin .add (.int 1) (.call 42 (.cons (.var 0) (.cons (.var 3) .nil))))) .nil)))) (.cons (.asg (.nm 7) (.call 42 (.cons (.var 0) (.cons (.call 43 (.cons (.var 0) (.cons (.lst false (.cons (.int 50) (.cons (.int 5000) (.cons (.int 210379680) .nil)))) .nil))) .nil)))) (.cons (.ex (.app (.var 4) (.tup (.cons (.bi .int (.cons (.var 6) .nil)) (.cons (.bi .int (.cons (.var 7) .nil)) .nil))))) .nil)))) (.cons (.if_ (.cmp .gt (.call 42 (.cons (.var 0) (.cons (.int 3) .nil))) (.int 0)) (.cons (.seti (.var 4) (.int 1) (.tup (.cons (.idx (.idx (.var 4) (.int 1)) (.int 0)) (.cons (.bi .int (.cons (.bin .add (.idx (.idx (.var 4) (.int 0)) (.int 1)) (.bin .mul (.var 2) (.call 42 (.cons (.var 0) (.cons (.int 50) .nil))))) .nil)) .nil)))) .nil) .nil) (.cons (.ret (.tup (.cons (.idx (.var 4) (.int 0)) (.cons (.tup (.cons (.idx (.idx (.var 4) (.int 1)) (.int 0)) (.cons (.bi .min2 (.cons (.idx (.idx (.var 4) (.int 1)) (.int 1)) (.cons (.int 210379679) .nil))) .nil))) .nil)))) .nil)))))))
def N_law_two : List Str := ["pot", "way", "factor", "most", "found", "lap", "wide", "begin"]
def B_law_met : Ss := (.cons (.asg (.nm 2) (.int 210379679)) (.cons (.asg (.tp (.cons (.tp (.cons (.nm 3) (.cons (.nm 4) .nil))) (.cons (.tp (.cons (.nm 5) (.cons (.nm 6) .nil))) .nil))) (.ife (.cmp .ge (.idx (.var 0) (.int 0)) (.idx (.var 1) (.int 0))) (.tup (.cons (.var 0) (.cons (.var 1) .nil))) (.tup (.cons (.var 1) (.cons (.var 0) .nil))))) (.cons (.if_ (.cmp .ne (.bin .mod (.bin .sub (.var 4) (.var 6)) (.call 48 (.cons (.var 3) (.cons (.var 5) .nil)))) (.int 0)) (.cons (.ret .non) .nil) .nil) (.cons (.asg (.nm 7) (.ife (.cmp .ge (.var 4) (.var 6)) (.var 4) (.bin .add (.var 4) (.bin .mul (.var 3) (.bin .sub (.int 0) (.bin .fdiv (.bin .sub (.var 4) (.var 6)) (.var 3))))))) (.cons (.for_ (.nm 8) (.rng1 (.var 5)) (.cons (.if_ (.cmp .eq (.bin .mod (.bin .sub (.var 7) (.var 6)) (.var 5)) (.int 0)) (.cons (.ret (.ife (.cmp .le (.var 7) (.var 2)) (.tup (.cons (.var 7) (.cons (.bin .fdiv (.bin .mul (.var 3) (.var 5)) (.call 48 (.cons (.var 3) (.cons (.var 5) .nil)))) .nil))) (.tup (.cons .non (.cons (.int 0) .nil))))) .nil) .nil) (.cons (.asg (.nm 7) (.bin .add (.var 7) (.var 3))) (.cons (.if_ (.cmp .gt (.var 7) (.var 2)) (.cons (.ret (.tup (.cons .non (.cons (.int 0) .nil)))) .nil) .nil) .nil)))) (.cons (.ret .non) .nil))))))
def N_law_met : List Str := ["one", "other", "last", "wide", "begin", "small", "its", "first", "lap"]
def BRuleReader___init__ : Ss := (.cons (.sattr (.var 0) "own_rules" .dnew) (.cons (.sattr (.var 0) "own_stars" .dnew) (.cons (.sattr (.var 0) "own_takes" .dnew) .nil)))
def NRuleReader___init__ : List Str := ["self"]
def BRuleReader_found : Ss := (.cons (.ret (.tup (.cons (.attr (.var 0) "own_rules") (.cons (.attr (.var 0) "own_stars") (.cons (.attr (.var 0) "own_takes") .nil))))) .nil)
def NRuleReader_found : List Str := ["self"]
def BRuleReader_takes_long : Ss := (.cons (.if_ (.or_ (.cmp .ne (.bi .len (.cons (.var 1) .nil)) (.int 3)) (.or_ (.cmp .notin (.idx (.var 1) (.int 0)) (.attr (.var 0) "own_rules")) (.cmp .inn (.idx (.var 1) (.int 0)) (.attr (.var 0) "own_takes")))) (.cons (.ret (.bl false)) .nil) .nil) (.cons (.asgc 2 (.comp false [("word", 3)] (.nm 3) (.seq (.slc (.var 1) (.so (.int 1)) .no)) .no (.call 14 (.cons (.var 3) (.cons (.int 1) (.cons (.cst 18) .nil)))))) (.cons (.if_ (.cmp .inn .non (.var 2)) (.cons (.ret (.bl false)) .nil) .nil) (.cons (.seti (.attr (.var 0) "own_takes") (.idx (.var 1) (.int 0)) (.bi .tuple (.cons (.var 2) .nil))) (.cons (.ret (.bl true)) .nil)))))
def NRuleReader_takes_long : List Str := ["self", "words", "some", "word"]
def BRuleReader_takes_each : Ss := (.cons (.if_ (.or_ (.cmp .ne (.bi .len (.cons (.var 2) .nil)) (.int 3)) (.cmp .ne (.idx (.var 2) (.int 1)) (.cst 15))) (.cons (.ret (.bl false)) .nil) .nil) (.cons (.par 3 4 (.call 14 (.cons (.idx (.var 2) (.int 0)) (.cons (.int 1) (.cons (.cst 18) .nil)))) (.call 14 (.cons (.idx (.var 2) (.int 2)) (.cons (.int 0) (.cons (.cst 19) .nil))))) (.cons (.if_ (.or_ (.cmp .is (.var 3) .non) (.cmp .is (.var 4) .non)) (.cons (.ret (.bl false)) .nil) .nil) (.cons (.seti (.attr (.var 0) "own_rules") (.var 1) (.tup (.cons (.cst 14) (.cons (.var 3) (.cons (.var 4) .nil))))) (.cons (.ret (.bl true)) .nil)))))
def NRuleReader_takes_each : List Str := ["self", "name", "words", "number", "begin"]
def BRuleReader_takes_fields : Ss := (.cons (.if_ (.cmp .ne (.bi .len (.cons (.var 3) .nil)) (.bi .len (.cons (.cst 20) .nil))) (.cons (.ret (.bl false)) .nil) .nil) (.cons (.asgc 4 (.comp false [("own", 5), ("least", 6), ("most", 7)] (.tp (.cons (.nm 5) (.cons (.tp (.cons (.nm 6) (.cons (.nm 7) .nil))) .nil))) (.zip (.var 3) (.cst 20)) .no (.call 13 (.cons (.var 5) (.cons (.var 6) (.cons (.var 7) .nil)))))) (.cons (.if_ (.cmp .inn .non (.var 4)) (.cons (.ret (.bl false)) .nil) .nil) (.cons (.seti (.attr (.var 0) "own_rules") (.var 1) (.tup (.cons (.var 2) (.star (.var 4) .nil)))) (.cons (.seti (.attr (.var 0) "own_stars") (.var 1) (.tup (.cons (.cmp .eq (.idx (.var 3) (.int 2)) (.cst 16)) (.cons (.cmp .eq (.idx (.var 3) (.int 4)) (.cst 16)) .nil)))) (.cons (.ret (.bl true)) .nil))))))
def NRuleReader_takes_fields : List Str := ["self", "name", "word", "words", "some", "own", "least", "most"]
def BRuleReader_takes : Ss := (.cons (.asg (.nm 2) (.split (.var 1) (.str " "))) (.cons (.if_ (.cmp .eq (.idx (.var 2) (.int 0)) (.cst 11)) (.cons (.ret (.mcall 53 (.var 0) (.cons (.slc (.var 2) (.so (.int 1)) .no) .nil))) .nil) .nil) (.cons (.if_ (.or_ (.cmp .ne (.idx (.var 2) (.int 0)) (.cst 10)) (.or_ (.cmp .lt (.bi .len (.cons (.var 2) .nil)) (.int 3)) (.or_ (.cmp .ne (.attr (.var 0) "own_takes") .dic0) (.cmp .eq (.bi .len (.cons (.attr (.var 0) "own_rules") .nil)) (.cst 17))))) (.cons (.ret (.bl false)) .nil) .nil) (.cons (.if_ (.or_ (.not_ (.call 2 (.cons (.idx (.var 2) (.int 1)) .nil))) (.cmp .inn (.idx (.var 2) (.int 1)) (.attr (.var 0) "own_rules"))) (.cons (.ret (.bl false)) .nil) .nil) (.cons (.if_ (.cmp .eq (.idx (.var 2) (.int 2)) (.cst 14)) (.cons (.ret (.mcall 54 (.var 0) (.cons (.idx (.var 2) (.int 1)) (.cons (.slc (.var 2) (.so (.int 3)) .no) .nil)))) .nil) .nil) (.cons (.ret (.and_ (.cmp .inn (.idx (.var 2) (.int 2)) (.tup (.cons (.cst 12) (.cons (.cst 13) .nil)))) (.mcall 55 (.var 0) (.cons (.idx (.var 2) (.int 1)) (.cons (.idx (.var 2) (.int 2)) (.cons (.slc (.var 2) (.so (.int 3)) .no) .nil)))))) .nil))))))
def NRuleReader_takes : List Str := ["self", "line", "words"]
def BRules___init__ : Ss := (.cons (.if_ (.not_ (.isi (.var 1) .str)) (.cons (.rs 1 (.int 0)) .nil) .nil) (.cons (.asg (.nm 2) (.new 51 .nil)) (.cons (.for_ (.tp (.cons (.nm 3) (.cons (.nm 4) .nil))) (.enum (.split (.var 1) (.str "\n"))) (.cons (.if_ (.not_ (.mcall 56 (.var 2) (.cons (.var 4) .nil))) (.cons (.rs 1 (.bin .add (.var 3) (.int 1))) .nil) .nil) .nil)) (.cons (.sattr (.var 0) "own_text" (.var 1)) (.cons (.sattrs 0 ["own_rules", "own_stars", "own_takes"] (.mcall 52 (.var 2) .nil)) (.cons (.sattr (.var 0) "own_jobs" (.bi .tuple (.cons (.attr (.var 0) "own_rules") .nil))) .nil))))))
def NRules___init__ : List Str := ["self", "text", "reader", "number", "line"]
def B_law_right : Ss := (.cons (.asg (.tp (.cons (.nm 1) (.cons (.nm 2) .nil))) (.call 49 (.cons (.var 0) .nil))) (.cons (.asg (.nm 3) (.call 47 (.cons (.var 0) (.cons (.int 2) .nil)))) (.cons (.asg (.nm 4) (.lst true .nil)) (.cons (.for_ (.tp (.cons (.nm 5) (.cons (.tp (.cons (.nm 6) (.cons (.nm 7) .nil))) .nil))) (.zip (.var 3) (.tup (.cons (.var 1) (.cons (.var 2) .nil)))) (.cons (.ex (.app (.var 4) (.join (.str " ") (.lst false (.cons (.str "job") (.cons (.var 5) (.cons (.str "each") (.cons (.bi .str (.cons (.var 6) .nil)) (.cons (.str "from") (.cons (.bi .str (.cons (.var 7) .nil)) .nil)))))))))) .nil)) (.cons (.par 8 9 (.new 57 (.cons (.join (.str "\n") (.call 45 (.cons (.var 0) (.cons (.var 4) (.cons (.int 2) .nil))))) .nil)) (.call 50 (.cons (.var 1) (.cons (.var 2) .nil)))) (.cons (.asg (.nm 10) (.ife (.cmp .is (.var 9) .non) (.tup (.cons (.str "apart") (.cons (.str "rests") .nil))) (.ife (.cmp .is (.idx (.var 9) (.int 0)) .non) (.tup (.cons (.str "apart") (.cons (.str "late") .nil))) (.tup (.cons (.str "meet") (.cons (.bi .int (.cons (.idx (.var 9) (.int 0)) .nil)) .nil)))))) (.cons (.if_ (.cmp .ne (.bi .repr (.cons (.callk 36 .nil (.cons (.var 8) (.cons (.idx (.var 3) (.int 0)) (.cons (.idx (.var 3) (.int 1)) .nil)))) .nil)) (.bi .repr (.cons (.var 10) .nil))) (.cons (.ret (.bl false)) .nil) .nil) (.cons (.if_ (.cmp .ne (.bi .repr (.cons (.call 36 (.cons (.var 8) (.cons (.idx (.var 3) (.int 1)) (.cons (.idx (.var 3) (.int 0)) .nil)))) .nil)) (.bi .repr (.cons (.var 10) .nil))) (.cons (.ret (.bl false)) .nil) .nil) (.cons (.if_ (.cmp .eq (.idx (.var 10) (.int 0)) (.str "apart")) (.cons (.asg (.nm 11) (.bi .int (.cons (.call 42 (.cons (.var 0) (.cons (.int 210379680) .nil))) .nil))) (.cons (.ret (.and_ (.cmp .eq (.call 40 (.cons (.var 8) (.cons (.idx (.var 3) (.int 0)) (.cons (.idx (.var 3) (.int 1)) .nil)))) (.int 0)) (.cmp .is (.call 37 (.cons (.var 8) (.cons (.idx (.var 3) (.int 0)) (.cons (.idx (.var 3) (.int 1)) (.cons (.var 11) .nil))))) .non))) .nil)) .nil) (.cons (.asg (.tp (.cons (.nm 12) (.cons (.nm 13) .nil))) (.var 9)) (.cons (.asg (.nm 14) (.bin .add (.bin .fdiv (.bin .sub (.int 210379679) (.var 12)) (.var 13)) (.int 1))) (.cons (.if_ (.cmp .ne (.bi .repr (.cons (.callk 40 .nil (.cons (.var 8) (.cons (.idx (.var 3) (.int 0)) (.cons (.idx (.var 3) (.int 1)) .nil)))) .nil)) (.bi .repr (.cons (.bi .int (.cons (.var 14) .nil)) .nil))) (.cons (.ret (.bl false)) .nil) .nil) (.cons (.for_ (.nm 15) (.rng1 (.int 5)) (.cons (.asg (.nm 11) (.bi .int (.cons (.call 43 (.cons (.var 0) (.cons (.lst false (.cons (.call 42 (.cons (.var 0) (.cons (.int 210379680) .nil))) (.cons (.bin .add (.var 12) (.bin .mul (.var 13) (.call 42 (.cons (.var 0) (.cons (.var 14) .nil))))) (.cons (.bin .add (.var 12) (.int 1)) (.cons (.int 0) .nil))))) .nil))) .nil))) (.cons (.asg (.nm 16) (.ife (.cmp .le (.var 11) (.var 12)) (.var 12) (.bin .add (.var 12) (.bin .mul (.var 13) (.bin .sub (.int 0) (.bin .fdiv (.bin .sub (.var 12) (.var 11)) (.var 13))))))) (.cons (.asg (.nm 10) (.ife (.cmp .le (.var 16) (.int 210379679)) (.bi .int (.cons (.var 16) .nil)) .non)) (.cons (.if_ (.and_ (.cmp .le (.var 11) (.int 210379679)) (.cmp .ne (.bi .repr (.cons (.callk 37 .nil (.cons (.var 8) (.cons (.idx (.var 3) (.int 0)) (.cons (.idx (.var 3) (.int 1)) (.cons (.var 11) .nil))))) .nil)) (.bi .repr (.cons (.var 10) .nil)))) (.cons (.ret (.bl false)) .nil) .nil) .nil))))) (.cons (.ret (.cmp .eq (.call 36 (.cons (.var 8) (.cons (.idx (.var 3) (.int 0)) (.cons (.idx (.var 3) (.int 0)) .nil)))) (.tup (.cons (.str "meet") (.cons (.idx (.var 1) (.int 1)) .nil))))) .nil))))))))))))))
def N_law_right : List Str := ["pot", "one", "other", "names", "lines", "name", "wide", "begin", "rules", "met", "due", "time", "first", "whole", "many", "lap", "step"]
def Blaw : Ss := (.cons (.for_ (.nm 1) (.seq (.call 44 (.cons (.var 0) (.cons (.int 2) .nil)))) (.cons (.asg (.nm 2) (.call 41 (.cons (.var 0) (.cons (.var 1) .nil)))) (.cons (.if_ (.not_ (.bi .all (.cons (.comp false [("lap", 3)] (.nm 3) (.rng1 (.int 8)) .no (.call 58 (.cons (.var 2) .nil))) .nil))) (.cons (.ret (.bl false)) .nil) .nil) .nil))) (.cons (.ret (.bl true)) .nil))
def Nlaw : List Str := ["script", "place", "pot", "lap"]
def lams : List (List Str) := []
def ats : List (Nat × Str) := [(1000, "own_rules"), (1000, "own_stars"), (1000, "own_takes"), (1001, "own_text"), (1001, "own_jobs"), (1001, "own_rules"), (1001, "own_stars"), (1001, "own_takes"), (1002, "own_rules"), (1002, "own_fields"), (1002, "own_rest"), (1002, "own_begin"), (1002, "own_minutes"), (1002, "own_is_ever"), (1002, "own_by_rest")]
def ins : List (Nat × Str) := [(1000, "RuleReader"), (1001, "Rules"), (1002, "Meeting")]
def tab (l : List Fn) : Tab := ⟨cst, l, cls, sub, PyData.shown, lams, ats, ins⟩
/-! ### K11: what each def is to keep -/
def potL (own small cnt : Int) : MO := .lst [.int own, .int small, .int cnt]
/-- the pot stands at n, its count at most c -/
def Pot (M : Mem) (n : Nat) (c : Int) : Prop := ∃ own small cnt, M[n]? = some (potL own small cnt) ∧ 0 ≤ cnt ∧ cnt ≤ c ∧ 0 ≤ small ∧ small < 2305843009213693951
/-- lines of a text -/
inductive Line where
  | each (w : Str) (n t : Nat)
  | fld (w : Str) (m h : Nat)
def Line.name : Line → Str
  | .each w _ _ => w
  | .fld w _ _ => w
def Line.words : Line → List Str
  | .each w n t => ["job", w, "each", numS n, "from", numS t]
  | .fld _ _ _ => []
def Line.ok : Line → Prop
  | .each w n t => NameOk w ∧ 1 ≤ n ∧ n ≤ 999999 ∧ t ≤ 210379679
  | .fld _ _ _ => False
def Line.rule : Line → D
  | .each _ n t => .tup [.str "each", .int n, .int t]
  | .fld _ _ _ => .non
def Line.key (l : Line) : L2.Key := .inr l.name
def Line.stars (ks : List (L2.Key × D)) : Line → List (L2.Key × D)
  | .each _ _ _ => ks
  | .fld w _ _ => putD ks (.inr w) (.tup [.bl true, .bl true])
def rulesOf (ls : List Line) : List (L2.Key × D) := ls.map fun l => (l.key, l.rule)
def textOf (ls : List Line) : Str := textS (ls.map fun l => lineS l.words)
/-- Rules as they stand -/
def rulesO (t : Str) (r s u : Nat) (ns : List Str) : MO := .ins 1001 [("own_text", .str t), ("own_rules", .ref r), ("own_stars", .ref s), ("own_takes", .ref u), ("own_jobs", .tup (ns.map D.str))]
def RulesAt (M : Mem) (m : Nat) (kr : List (L2.Key × D)) (ns : List Str) : Prop := ∃ t r s u, M[m]? = some (rulesO t r s u ns) ∧ M[r]? = some (.dct kr)
/-- a reader as it stands -/
def readO (r s u : Nat) : MO := .ins 1000 [("own_rules", .ref r), ("own_stars", .ref s), ("own_takes", .ref u)]
structure Rd (M : Mem) (n r s u : Nat) (kr ks ku : List (L2.Key × D)) : Prop where
  o : M[n]? = some (readO r s u)
  dr : M[r]? = some (.dct kr)
  ds : M[s]? = some (.dct ks)
  du : M[u]? = some (.dct ku)
  rs : r ≠ s
  ru : r ≠ u
  su : s ≠ u
/-- pairs -/
def Pair (p : Int × Int) : D := .tup [.int p.1, .int p.2]
def eachD (p : Int × Int) : D := .tup [.str "each", .int p.1, .int p.2]
/-- a Meeting as it stands -/
def meetO (m f : Nat) (rest : D) (B : Int) (mi : Nat) (ev : Bool) (br : Nat) : MO := .ins 1002 [("own_rules", .ref m), ("own_fields", .ref f), ("own_rest", rest), ("own_begin", .int B), ("own_minutes", .ref mi), ("own_is_ever", .bl ev), ("own_by_rest", .ref br)]
def MeetAt (M : Mem) (k : Nat) (rest : D) (B : Int) (ev : Bool) : Prop := ∃ m f mi br, M[k]? = some (meetO m f rest B mi ev br) ∧ M[f]? = some (.lst [])
def restD (L x : Int) : D := .tup [.int L, .int x]
/-- what a Meeting of two knows -/
def Knows (p q : Int × Int) (rest : D) (ev : Bool) : Prop := (¬ Div p q ∧ rest = .non ∧ ev = false) ∨ (Div p q ∧ ev = true ∧ ∃ x, IsX p q x ∧ rest = restD (Int.lcm p.1 q.1) x)
/-- a minute, or none -/
def optT (i : Int) : D := if i ≤ 210379679 then .int i else .non
def big : Int := 10 ^ 40
def Jobs2 (kr : List (L2.Key × D)) (ns : List Str) (a b : Str) (p q : Int × Int) : Prop := a ∈ ns ∧ b ∈ ns ∧ valD kr (.inr a) = some (eachD p) ∧ valD kr (.inr b) = some (eachD q) ∧ PairOk p ∧ PairOk q
/-- what meet tells -/
def apartD (p q : Int × Int) : D := .tup [.str "apart", .str (if Div p q then "late" else "rests")]
def meetD (f : Int) : D := .tup [.str "meet", .int f]
def spis_integer : DSp := fun ds M Q _ => ∃ d, ds = [d] ∧ match d with | .int _ => Q (.bl true) M | .bl _ => Q (.bl false) M | .non => Q (.bl false) M | .str _ => Q (.bl false) M | .tup _ => Q (.bl false) M | .lst _ => Q (.bl false) M | _ => False
def spis_between : DSp := fun ds M Q _ => ∃ d a b, ds = [d, .int a, .int b] ∧ match d with | .int i => Q (.bl (decide (a ≤ i ∧ i ≤ b))) M | .bl _ => Q (.bl false) M | .non => Q (.bl false) M | .str _ => Q (.bl false) M | .tup _ => Q (.bl false) M | .lst _ => Q (.bl false) M | _ => False
def spis_name : DSp := fun ds M Q _ => ∃ w, ds = [.str w] ∧ NameOk w ∧ Q (.bl true) M
def spread_integer : DSp := fun ds M Q _ => ∃ n : Nat, ds = [.str (numS n)] ∧ n < 10 ^ 9 ∧ Q (.int n) M
def spcommon : DSp := fun ds M Q _ => ∃ a b : Int, ds = [.int a, .int b] ∧ 0 < a ∧ 0 < b ∧ Q (.int (Int.gcd a b)) M
def spis_time : DSp := fun ds M Q _ => ∃ i : Int, ds = [.int i] ∧ 0 ≤ i ∧ i ≤ 210379679 ∧ Q (.bl true) M
def spcheck_time : DSp := fun ds M Q _ => ∃ i : Int, ds = [.int i] ∧ 0 ≤ i ∧ i ≤ 210379679 ∧ Q .non M
def spread_number : DSp := fun ds M Q _ => ∃ (n : Nat) (lo hi : Int), ds = [.str (numS n), .int lo, .int hi] ∧ n < 10 ^ 9 ∧ lo ≤ n ∧ n ≤ hi ∧ Q (.int n) M
def spcheck_rules : DSp := fun ds M Q _ => ∃ m kr ns, ds = [.ref m] ∧ RulesAt M m kr ns ∧ Q .non M
def spRules_jobs : DSp := fun ds M Q _ => ∃ m kr ns, ds = [.ref m] ∧ RulesAt M m kr ns ∧ Q (.tup (ns.map D.str)) M
def spcheck_job : DSp := fun ds M Q _ => ∃ m kr ns j, ds = [.ref m, .str j] ∧ RulesAt M m kr ns ∧ j ∈ ns ∧ Q .non M
def spRules_rule_of : DSp := fun ds M Q _ => ∃ m kr ns j v, ds = [.ref m, .str j] ∧ RulesAt M m kr ns ∧ valD kr (.inr j) = some v ∧ Q v M
def spis_each : DSp := fun ds M Q _ => ∃ m kr ns j w xs, ds = [.ref m, .str j] ∧ RulesAt M m kr ns ∧ valD kr (.inr j) = some (.tup (.str w :: xs)) ∧ Q (.bl (decide (w = ("each" : Str)))) M
def spis_long_year : DSp := fun _ _ _ _ => False
def spdays_in : DSp := fun _ _ _ _ => False
def spdays_ahead : DSp := fun _ _ _ _ => False
def spdate_by : DSp := fun _ _ _ _ => False
def spweekday_by : DSp := fun _ _ _ _ => False
def spread_part : DSp := fun _ _ _ _ => False
def spread_field : DSp := fun _ _ _ _ => False
def spRules_stars_of : DSp := fun _ _ _ _ => False
def spfits_in : DSp := fun _ _ _ _ => False
def spby_hours : DSp := fun _ _ _ _ => False
def spminutes_of : DSp := fun _ _ _ _ => False
def splengths_of : DSp := fun _ _ _ _ => False
def sptold_never : DSp := fun _ _ _ _ => False
def spMeeting_days_from : DSp := fun _ _ _ _ => False
def spMeeting_minutes_on : DSp := fun _ _ _ _ => False
def spMeeting_behind : DSp := fun _ _ _ _ => False
def spRuleReader_takes_long : DSp := fun _ _ _ _ => False
def spRuleReader_takes_fields : DSp := fun _ _ _ _ => False
def spinverse : DSp := fun ds M Q _ => ∃ a m : Int, ds = [.int a, .int m] ∧ 0 < a ∧ 0 < m ∧ m ≤ 999999 ∧ Int.gcd a m = 1 ∧ ∀ i : Int, 0 ≤ i → i < m → (a * i - 1) % m = 0 → Q (.int i) M
def spput_together : DSp := fun ds M Q _ => ∃ n r m s : Int, ds = [.tup [.int n, .int r], .tup [.int m, .int s]] ∧ 1 ≤ n ∧ n ≤ big ∧ 0 ≤ r ∧ r ≤ big ∧ 1 ≤ m ∧ m ≤ 999999 ∧ 0 ≤ s ∧ s ≤ 999999999 ∧
  ((s - r) % (Int.gcd n m : Int) ≠ 0 → Q .non M) ∧ ((s - r) % (Int.gcd n m : Int) = 0 → ∀ x : Int, 0 ≤ x → x < (Int.lcm n m : Int) → (x - r) % n = 0 → (x - s) % m = 0 → Q (.tup [.int (Int.lcm n m), .int x]) M)
def spall_together : DSp := fun ds M Q _ => ∃ p q, ds = [.lst [Pair p, Pair q]] ∧ PairOk p ∧ PairOk q ∧ (¬ Div p q → Q .non M) ∧ (Div p q → ∀ x, IsX p q x → Q (restD (Int.lcm p.1 q.1) x) M)
def spcheck_two : DSp := fun ds M Q _ => ∃ m kr ns a b p q, ds = [.ref m, .str a, .str b] ∧ RulesAt M m kr ns ∧ Jobs2 kr ns a b p q ∧ Q .non M
def spwhy_apart : DSp := fun ds M Q _ => ∃ m kr ns a b p q, ds = [.ref m, .str a, .str b] ∧ RulesAt M m kr ns ∧ Jobs2 kr ns a b p q ∧ Q (.str (if Div p q then "late" else "rests")) M
def spMeeting_first : DSp := fun ds M Q _ => ∃ k p q rest ev t, ds = [.ref k, .int t] ∧ MeetAt M k rest (bg p q) ev ∧ PairOk p ∧ PairOk q ∧ Knows p q rest ev ∧ 0 ≤ t ∧ t ≤ 210379679 ∧ (¬ Div p q → Q .non M) ∧ (Div p q → ∀ x, IsX p q x → Q (optT (fm (Int.lcm p.1 q.1) x (max t (bg p q)))) M)
def spMeeting_by_rest : DSp := fun ds M Q _ => ∃ k m f mi rest B ev, ds = [.ref k] ∧ M[k]? = some (.ins 1002 [("own_rules", .ref m), ("own_fields", .ref f), ("own_rest", rest), ("own_begin", .int B), ("own_minutes", .ref mi), ("own_is_ever", .bl ev)]) ∧ M[mi]? = some (.lst (rngL 0 1440)) ∧
  (ev = true → ∃ L x, rest = restD L x ∧ 0 < L) ∧ ∀ M' d, Stays [] M M' → Q (.ref d) M'
def spMeeting___init__ : DSp := fun ds M Q _ => ∃ k m kr ns a b p q, ds = [.ref k, .ref m, .tup [.str a, .str b]] ∧ M[k]? = some (.ins 1002 []) ∧ RulesAt M m kr ns ∧ Jobs2 kr ns a b p q ∧ ∀ M' rest ev, Stays [k] M M' → Knows p q rest ev → MeetAt M' k rest (bg p q) ev → Q .non M'
def spmeet : DSp := fun ds M Q _ => ∃ m kr ns a b p q, ds = [.ref m, .str a, .str b] ∧ RulesAt M m kr ns ∧ Jobs2 kr ns a b p q ∧ (¬ Div p q → ∀ M', Stays [] M M' → Q (apartD p q) M') ∧ (Div p q → ∀ f M', IsF p q f → Stays [] M M' → Q (if f ≤ 210379679 then meetD f else apartD p q) M')
def spnext_meet : DSp := fun ds M Q _ => ∃ m kr ns a b p q t, ds = [.ref m, .str a, .str b, .int t] ∧ RulesAt M m kr ns ∧ Jobs2 kr ns a b p q ∧ 0 ≤ t ∧ t ≤ 210379679 ∧ (¬ Div p q → ∀ M', Stays [] M M' → Q .non M') ∧ (Div p q → ∀ x M', IsX p q x → Stays [] M M' → Q (optT (fm (Int.lcm p.1 q.1) x (max t (bg p q)))) M')
def manyD (p q : Int × Int) (f : Int) : Int := if f ≤ 210379679 then (210379679 - f) / (Int.lcm p.1 q.1 : Int) + 1 else 0
def spMeeting_count : DSp := fun ds M Q _ => ∃ k p q rest ev, ds = [.ref k] ∧ MeetAt M k rest (bg p q) ev ∧ PairOk p ∧ PairOk q ∧ Knows p q rest ev ∧ (¬ Div p q → Q (.int 0) M) ∧ (Div p q → ∀ f, IsF p q f → Q (.int (manyD p q f)) M)
def spmeetings : DSp := fun ds M Q _ => ∃ m kr ns a b p q, ds = [.ref m, .str a, .str b] ∧ RulesAt M m kr ns ∧ Jobs2 kr ns a b p q ∧ (¬ Div p q → ∀ M', Stays [] M M' → Q (.int 0) M') ∧ (Div p q → ∀ f M', IsF p q f → Stays [] M M' → Q (.int (manyD p q f)) M')
def sp_law_pot : DSp := fun ds M Q _ => ∃ (ns : List Int) (k : Nat), ds = [.lst (ns.map D.int), .int k] ∧ k ≤ 1 ∧ ∀ own small : Int, 0 ≤ small → small < 2305843009213693951 → Q (.ref M.length) (M ++ [potL own small 0])
def sp_law_take : DSp := fun ds M Q _ => ∃ n own small cnt upto, ds = [.ref n, .int upto] ∧ M[n]? = some (potL own small cnt) ∧ 0 ≤ cnt ∧ cnt < 1000000 ∧ 0 ≤ small ∧ small < 2305843009213693951 ∧ 0 < upto ∧ upto ≤ 1000000000 ∧
  ∀ d own' cnt', 0 ≤ d → d < upto → 0 ≤ cnt' → cnt' ≤ cnt + 1 → Q (.int d) (M.set n (potL own' small cnt'))
def sp_law_of : DSp := fun ds M Q _ => ∃ n own small cnt x xs, ds = [.ref n, x] ∧ x ≠ .ref n ∧ seqD M x = some xs ∧ xs ≠ [] ∧ xs.length ≤ 1000 ∧ M[n]? = some (potL own small cnt) ∧ 0 ≤ cnt ∧ cnt < 1000000 ∧ 0 ≤ small ∧ small < 2305843009213693951 ∧
  ∀ d ∈ xs, ∀ own' cnt', 0 ≤ cnt' → cnt' ≤ cnt + 1 → Q d (M.set n (potL own' small cnt'))
def sp_law_cells : DSp := fun ds M Q _ => ∃ (ns : List Int), ns.length ≤ 63 ∧ ds = [.lst (ns.map D.int), .int 2] ∧ ∀ k : Nat, k ≤ 2 → Q (.lst (rngL 0 k)) M
def sp_law_some : DSp := fun ds M Q _ => ∃ (n : Nat) (c : Int) (x : D) (ss : List Str) (k : Nat), ds = [.ref n, x, .int k] ∧ x ≠ .ref n ∧ seqD M x = some (ss.map D.str) ∧ Pot M n c ∧ c < 900000 ∧ k ≤ ss.length ∧ ss.length ≤ 1000 ∧ ss.Nodup ∧
  ∀ (ts : List Str) M' f, ts.length = k → ts.Nodup → (∀ t ∈ ts, t ∈ ss) → Stays [n] M M' → Pot M' n (c + k) → M.length ≤ f → M'[f]? = some (.lst (ts.map D.str)) → Q (.ref f) M'
def sp_law_name : DSp := fun ds M Q _ => ∃ (n f : Nat) (c : Int) (ss : List Str), ds = [.ref n, .ref f] ∧ f ≠ n ∧ M[f]? = some (.lst (ss.map D.str)) ∧ ss.length ≤ 1 ∧ Pot M n c ∧ c < 800000 ∧
  ∀ w M', NameOk w → w ∉ ss → Stays [n] M M' → Pot M' n (c + 12) → Q (.str w) M'
def sp_law_names : DSp := fun ds M Q _ => ∃ (n : Nat) (c : Int), ds = [.ref n, .int 2] ∧ Pot M n c ∧ c < 700000 ∧ ∀ a b M', NameOk a → NameOk b → a ≠ b → Stays [n] M M' → Pot M' n (c + 60) → Q (.tup [.str a, .str b]) M'
def sp_law_common : DSp := fun ds M Q _ => ∃ a b : Int, ds = [.int a, .int b] ∧ 0 < a ∧ a ≤ big ∧ 0 < b ∧ b ≤ 999999 ∧ Q (.int (Int.gcd a b)) M
def sp_law_two : DSp := fun ds M Q _ => ∃ (n : Nat) (c : Int), ds = [.ref n] ∧ Pot M n c ∧ c < 800000 ∧ ∀ p q M', PairOk p → PairOk q → Stays [n] M M' → Pot M' n (c + 20) → Q (.tup [Pair p, Pair q]) M'
def sp_law_met : DSp := fun ds M Q _ => ∃ p q, ds = [Pair p, Pair q] ∧ PairOk p ∧ PairOk q ∧ (¬ Div p q → Q .non M) ∧ (Div p q → ∀ f, IsF p q f → Q (if f ≤ 210379679 then .tup [.int f, .int (Int.lcm p.1 q.1)] else .tup [.non, .int 0]) M)
def spRuleReader___init__ : DSp := fun ds M Q _ => ∃ n, ds = [.ref n] ∧ M[n]? = some (.ins 1000 []) ∧ ∀ M', Stays [n] M M' → Rd M' n M.length (M.length + 1) (M.length + 2) [] [] [] → Q .non M'
def spRuleReader_found : DSp := fun ds M Q _ => ∃ n r s u kr ks ku, ds = [.ref n] ∧ Rd M n r s u kr ks ku ∧ Q (.tup [.ref r, .ref s, .ref u]) M
def spRuleReader_takes_each : DSp := fun ds M Q _ => ∃ n r s u kr ks ku w N t, ds = [.ref n, .str w, .lst [.str (numS N), .str "from", .str (numS t)]] ∧ Rd M n r s u kr ks ku ∧ kr.length ≤ 1000 ∧ (Line.each w N t).ok ∧ Q (.bl true) (M.set r (.dct (putD kr (.inr w) (Line.each w N t).rule)))
def spRuleReader_takes : DSp := fun ds M Q _ => ∃ n r s u kr ks, ∃ l : Line, ds = [.ref n, .str (lineS l.words)] ∧ Rd M n r s u kr ks [] ∧ kr.length ≤ 11 ∧ ks.length ≤ 1000 ∧ l.ok ∧ valD kr l.key = none ∧
  ∀ M', Stays [r, s] M M' → Rd M' n r s u (putD kr l.key l.rule) (l.stars ks) [] → Q (.bl true) M'
def spRules___init__ : DSp := fun ds M Q _ => ∃ m, ∃ ls : List Line, ds = [.ref m, .str (textOf ls)] ∧ M[m]? = some (.ins 1001 []) ∧ ls ≠ [] ∧ ls.length ≤ 12 ∧ (∀ l ∈ ls, l.ok) ∧ (ls.map Line.name).Nodup ∧
  ∀ M', Stays [m] M M' → RulesAt M' m (rulesOf ls) (ls.map Line.name) → Q .non M'
def sp_law_right : DSp := fun ds M Q _ => ∃ n c, ds = [.ref n] ∧ Pot M n c ∧ c < 600000 ∧ ∀ M', Pot M' n (c + 200) → Q (.bl true) M'
def splaw : DSp := fun ds M Q _ => ∃ ns : List Int, ns.length ≤ 63 ∧ ds = [.lst (ns.map D.int)] ∧ ∀ M', Q (.bl true) M'

def Fis_integer : Fn := ⟨"is_integer", ["value"], false, spis_integer, none⟩
def Fis_between : Fn := ⟨"is_between", ["value", "least", "most"], false, spis_between, none⟩
def Fis_name : Fn := ⟨"is_name", ["value"], false, spis_name, none⟩
def Fread_integer : Fn := ⟨"read_integer", ["word"], false, spread_integer, none⟩
def Fcommon : Fn := ⟨"common", ["one", "other"], false, spcommon, none⟩
def Fis_time : Fn := ⟨"is_time", ["value"], false, spis_time, none⟩
def Fcheck_time : Fn := ⟨"check_time", ["time"], false, spcheck_time, none⟩
def Fis_long_year : Fn := ⟨"is_long_year", ["year"], false, spis_long_year, none⟩
def Fdays_in : Fn := ⟨"days_in", ["year", "month"], false, spdays_in, none⟩
def Fdays_ahead : Fn := ⟨"days_ahead", ["year"], false, spdays_ahead, none⟩
def Fdate_by : Fn := ⟨"date_by", ["day"], false, spdate_by, none⟩
def Fweekday_by : Fn := ⟨"weekday_by", ["day"], false, spweekday_by, none⟩
def Fread_part : Fn := ⟨"read_part", ["word", "least", "most"], false, spread_part, none⟩
def Fread_field : Fn := ⟨"read_field", ["word", "least", "most"], false, spread_field, none⟩
def Fread_number : Fn := ⟨"read_number", ["word", "least", "most"], false, spread_number, none⟩
def Fcheck_rules : Fn := ⟨"check_rules", ["rules"], false, spcheck_rules, none⟩
def FRules_jobs : Fn := ⟨"Rules.jobs", ["self"], false, spRules_jobs, some (1001, .prop, "jobs")⟩
def Fcheck_job : Fn := ⟨"check_job", ["rules", "job"], false, spcheck_job, none⟩
def FRules_rule_of : Fn := ⟨"Rules.rule_of", ["self", "job"], false, spRules_rule_of, some (1001, .meth, "rule_of")⟩
def FRules_stars_of : Fn := ⟨"Rules.stars_of", ["self", "job"], false, spRules_stars_of, some (1001, .meth, "stars_of")⟩
def Ffits_in : Fn := ⟨"fits_in", ["rules", "job", "month", "number", "weekday"], false, spfits_in, none⟩
def Fby_hours : Fn := ⟨"by_hours", ["hours", "minutes"], false, spby_hours, none⟩
def Fminutes_of : Fn := ⟨"minutes_of", ["rules", "job"], false, spminutes_of, none⟩
def Fis_each : Fn := ⟨"is_each", ["rules", "job"], false, spis_each, none⟩
def Flengths_of : Fn := ⟨"lengths_of", ["month"], false, splengths_of, none⟩
def Ftold_never : Fn := ⟨"told_never", ["rules", "job"], false, sptold_never, none⟩
def Finverse : Fn := ⟨"inverse", ["number", "round_of"], false, spinverse, none⟩
def Fput_together : Fn := ⟨"put_together", ["one", "other"], false, spput_together, none⟩
def Fall_together : Fn := ⟨"all_together", ["rests"], false, spall_together, none⟩
def Fcheck_two : Fn := ⟨"check_two", ["rules", "one", "other"], false, spcheck_two, none⟩
def Fwhy_apart : Fn := ⟨"why_apart", ["rules", "one", "other"], false, spwhy_apart, none⟩
def FMeeting_days_from : Fn := ⟨"Meeting.days_from", ["self", "year", "month", "begin"], false, spMeeting_days_from, some (1002, .meth, "days_from")⟩
def FMeeting_minutes_on : Fn := ⟨"Meeting.minutes_on", ["self", "day"], false, spMeeting_minutes_on, some (1002, .meth, "minutes_on")⟩
def FMeeting_first : Fn := ⟨"Meeting.first", ["self", "time"], false, spMeeting_first, some (1002, .meth, "first")⟩
def FMeeting_by_rest : Fn := ⟨"Meeting.by_rest", ["self"], false, spMeeting_by_rest, some (1002, .meth, "by_rest")⟩
def FMeeting___init__ : Fn := ⟨"Meeting", ["self", "rules", "jobs"], false, spMeeting___init__, some (1002, .init, "__init__")⟩
def Fmeet : Fn := ⟨"meet", ["rules", "one", "other"], true, spmeet, none⟩
def Fnext_meet : Fn := ⟨"next_meet", ["rules", "one", "other", "time"], true, spnext_meet, none⟩
def FMeeting_behind : Fn := ⟨"Meeting.behind", ["self", "day", "some"], false, spMeeting_behind, some (1002, .meth, "behind")⟩
def FMeeting_count : Fn := ⟨"Meeting.count", ["self"], false, spMeeting_count, some (1002, .meth, "count")⟩
def Fmeetings : Fn := ⟨"meetings", ["rules", "one", "other"], true, spmeetings, none⟩
def F_law_pot : Fn := ⟨"_law_pot", ["script", "place"], false, sp_law_pot, none⟩
def F_law_take : Fn := ⟨"_law_take", ["pot", "upto"], false, sp_law_take, none⟩
def F_law_of : Fn := ⟨"_law_of", ["pot", "some"], false, sp_law_of, none⟩
def F_law_cells : Fn := ⟨"_law_cells", ["script", "most"], false, sp_law_cells, none⟩
def F_law_some : Fn := ⟨"_law_some", ["pot", "pool", "many"], false, sp_law_some, none⟩
def F_law_name : Fn := ⟨"_law_name", ["pot", "some"], false, sp_law_name, none⟩
def F_law_names : Fn := ⟨"_law_names", ["pot", "many"], false, sp_law_names, none⟩
def F_law_common : Fn := ⟨"_law_common", ["one", "other"], false, sp_law_common, none⟩
def F_law_two : Fn := ⟨"_law_two", ["pot"], false, sp_law_two, none⟩
def F_law_met : Fn := ⟨"_law_met", ["one", "other"], false, sp_law_met, none⟩
def FRuleReader___init__ : Fn := ⟨"RuleReader", ["self"], false, spRuleReader___init__, some (1000, .init, "__init__")⟩
def FRuleReader_found : Fn := ⟨"RuleReader.found", ["self"], false, spRuleReader_found, some (1000, .meth, "found")⟩
def FRuleReader_takes_long : Fn := ⟨"RuleReader.takes_long", ["self", "words"], false, spRuleReader_takes_long, some (1000, .meth, "takes_long")⟩
def FRuleReader_takes_each : Fn := ⟨"RuleReader.takes_each", ["self", "name", "words"], false, spRuleReader_takes_each, some (1000, .meth, "takes_each")⟩
def FRuleReader_takes_fields : Fn := ⟨"RuleReader.takes_fields", ["self", "name", "word", "words"], false, spRuleReader_takes_fields, some (1000, .meth, "takes_fields")⟩
def FRuleReader_takes : Fn := ⟨"RuleReader.takes", ["self", "line"], false, spRuleReader_takes, some (1000, .meth, "takes")⟩
def FRules___init__ : Fn := ⟨"Rules", ["self", "text"], false, spRules___init__, some (1001, .init, "__init__")⟩
def F_law_right : Fn := ⟨"_law_right", ["pot"], false, sp_law_right, none⟩
def Flaw : Fn := ⟨"law", ["script"], false, splaw, none⟩
abbrev T0 : List Fn := []
abbrev T1 : List Fn := [Fis_integer]
abbrev T2 : List Fn := [Fis_integer, Fis_between]
abbrev T3 : List Fn := [Fis_integer, Fis_between, Fis_name]
abbrev T4 : List Fn := [Fis_integer, Fis_between, Fis_name, Fread_integer]
abbrev T5 : List Fn := [Fis_integer, Fis_between, Fis_name, Fread_integer, Fcommon]
abbrev T6 : List Fn := [Fis_integer, Fis_between, Fis_name, Fread_integer, Fcommon, Fis_time]
abbrev T7 : List Fn := [Fis_integer, Fis_between, Fis_name, Fread_integer, Fcommon, Fis_time, Fcheck_time]
abbrev T8 : List Fn := [Fis_integer, Fis_between, Fis_name, Fread_integer, Fcommon, Fis_time, Fcheck_time, Fis_long_year]
abbrev T9 : List Fn := [Fis_integer, Fis_between, Fis_name, Fread_integer, Fcommon, Fis_time, Fcheck_time, Fis_long_year, Fdays_in]
abbrev T10 : List Fn := [Fis_integer, Fis_between, Fis_name, Fread_integer, Fcommon, Fis_time, Fcheck_time, Fis_long_year, Fdays_in, Fdays_ahead]
abbrev T11 : List Fn := [Fis_integer, Fis_between, Fis_name, Fread_integer, Fcommon, Fis_time, Fcheck_time, Fis_long_year, Fdays_in, Fdays_ahead, Fdate_by]
abbrev T12 : List Fn := [Fis_integer, Fis_between, Fis_name, Fread_integer, Fcommon, Fis_time, Fcheck_time, Fis_long_year, Fdays_in, Fdays_ahead, Fdate_by, Fweekday_by]
abbrev T13 : List Fn := [Fis_integer, Fis_between, Fis_name, Fread_integer, Fcommon, Fis_time, Fcheck_time, Fis_long_year, Fdays_in, Fdays_ahead, Fdate_by, Fweekday_by, Fread_part]
abbrev T14 : List Fn := [Fis_integer, Fis_between, Fis_name, Fread_integer, Fcommon, Fis_time, Fcheck_time, Fis_long_year, Fdays_in, Fdays_ahead, Fdate_by, Fweekday_by, Fread_part, Fread_field]
abbrev T15 : List Fn := [Fis_integer, Fis_between, Fis_name, Fread_integer, Fcommon, Fis_time, Fcheck_time, Fis_long_year, Fdays_in, Fdays_ahead, Fdate_by, Fweekday_by, Fread_part, Fread_field, Fread_number]
abbrev T16 : List Fn := [Fis_integer, Fis_between, Fis_name, Fread_integer, Fcommon, Fis_time, Fcheck_time, Fis_long_year, Fdays_in, Fdays_ahead, Fdate_by, Fweekday_by, Fread_part, Fread_field, Fread_number, Fcheck_rules]
abbrev T17 : List Fn := [Fis_integer, Fis_between, Fis_name, Fread_integer, Fcommon, Fis_time, Fcheck_time, Fis_long_year, Fdays_in, Fdays_ahead, Fdate_by, Fweekday_by, Fread_part, Fread_field, Fread_number, Fcheck_rules, FRules_jobs]
abbrev T18 : List Fn := [Fis_integer, Fis_between, Fis_name, Fread_integer, Fcommon, Fis_time, Fcheck_time, Fis_long_year, Fdays_in, Fdays_ahead, Fdate_by, Fweekday_by, Fread_part, Fread_field, Fread_number, Fcheck_rules, FRules_jobs, Fcheck_job]
abbrev T19 : List Fn := [Fis_integer, Fis_between, Fis_name, Fread_integer, Fcommon, Fis_time, Fcheck_time, Fis_long_year, Fdays_in, Fdays_ahead, Fdate_by, Fweekday_by, Fread_part, Fread_field, Fread_number, Fcheck_rules, FRules_jobs, Fcheck_job, FRules_rule_of]
abbrev T20 : List Fn := [Fis_integer, Fis_between, Fis_name, Fread_integer, Fcommon, Fis_time, Fcheck_time, Fis_long_year, Fdays_in, Fdays_ahead, Fdate_by, Fweekday_by, Fread_part, Fread_field, Fread_number, Fcheck_rules, FRules_jobs, Fcheck_job, FRules_rule_of, FRules_stars_of]
abbrev T21 : List Fn := [Fis_integer, Fis_between, Fis_name, Fread_integer, Fcommon, Fis_time, Fcheck_time, Fis_long_year, Fdays_in, Fdays_ahead, Fdate_by, Fweekday_by, Fread_part, Fread_field, Fread_number, Fcheck_rules, FRules_jobs, Fcheck_job, FRules_rule_of, FRules_stars_of, Ffits_in]
abbrev T22 : List Fn := [Fis_integer, Fis_between, Fis_name, Fread_integer, Fcommon, Fis_time, Fcheck_time, Fis_long_year, Fdays_in, Fdays_ahead, Fdate_by, Fweekday_by, Fread_part, Fread_field, Fread_number, Fcheck_rules, FRules_jobs, Fcheck_job, FRules_rule_of, FRules_stars_of, Ffits_in, Fby_hours]
abbrev T23 : List Fn := [Fis_integer, Fis_between, Fis_name, Fread_integer, Fcommon, Fis_time, Fcheck_time, Fis_long_year, Fdays_in, Fdays_ahead, Fdate_by, Fweekday_by, Fread_part, Fread_field, Fread_number, Fcheck_rules, FRules_jobs, Fcheck_job, FRules_rule_of, FRules_stars_of, Ffits_in, Fby_hours, Fminutes_of]
abbrev T24 : List Fn := [Fis_integer, Fis_between, Fis_name, Fread_integer, Fcommon, Fis_time, Fcheck_time, Fis_long_year, Fdays_in, Fdays_ahead, Fdate_by, Fweekday_by, Fread_part, Fread_field, Fread_number, Fcheck_rules, FRules_jobs, Fcheck_job, FRules_rule_of, FRules_stars_of, Ffits_in, Fby_hours, Fminutes_of, Fis_each]
abbrev T25 : List Fn := [Fis_integer, Fis_between, Fis_name, Fread_integer, Fcommon, Fis_time, Fcheck_time, Fis_long_year, Fdays_in, Fdays_ahead, Fdate_by, Fweekday_by, Fread_part, Fread_field, Fread_number, Fcheck_rules, FRules_jobs, Fcheck_job, FRules_rule_of, FRules_stars_of, Ffits_in, Fby_hours, Fminutes_of, Fis_each, Flengths_of]
abbrev T26 : List Fn := [Fis_integer, Fis_between, Fis_name, Fread_integer, Fcommon, Fis_time, Fcheck_time, Fis_long_year, Fdays_in, Fdays_ahead, Fdate_by, Fweekday_by, Fread_part, Fread_field, Fread_number, Fcheck_rules, FRules_jobs, Fcheck_job, FRules_rule_of, FRules_stars_of, Ffits_in, Fby_hours, Fminutes_of, Fis_each, Flengths_of, Ftold_never]
abbrev T27 : List Fn := [Fis_integer, Fis_between, Fis_name, Fread_integer, Fcommon, Fis_time, Fcheck_time, Fis_long_year, Fdays_in, Fdays_ahead, Fdate_by, Fweekday_by, Fread_part, Fread_field, Fread_number, Fcheck_rules, FRules_jobs, Fcheck_job, FRules_rule_of, FRules_stars_of, Ffits_in, Fby_hours, Fminutes_of, Fis_each, Flengths_of, Ftold_never, Finverse]
abbrev T28 : List Fn := [Fis_integer, Fis_between, Fis_name, Fread_integer, Fcommon, Fis_time, Fcheck_time, Fis_long_year, Fdays_in, Fdays_ahead, Fdate_by, Fweekday_by, Fread_part, Fread_field, Fread_number, Fcheck_rules, FRules_jobs, Fcheck_job, FRules_rule_of, FRules_stars_of, Ffits_in, Fby_hours, Fminutes_of, Fis_each, Flengths_of, Ftold_never, Finverse, Fput_together]
abbrev T29 : List Fn := [Fis_integer, Fis_between, Fis_name, Fread_integer, Fcommon, Fis_time, Fcheck_time, Fis_long_year, Fdays_in, Fdays_ahead, Fdate_by, Fweekday_by, Fread_part, Fread_field, Fread_number, Fcheck_rules, FRules_jobs, Fcheck_job, FRules_rule_of, FRules_stars_of, Ffits_in, Fby_hours, Fminutes_of, Fis_each, Flengths_of, Ftold_never, Finverse, Fput_together, Fall_together]
abbrev T30 : List Fn := [Fis_integer, Fis_between, Fis_name, Fread_integer, Fcommon, Fis_time, Fcheck_time, Fis_long_year, Fdays_in, Fdays_ahead, Fdate_by, Fweekday_by, Fread_part, Fread_field, Fread_number, Fcheck_rules, FRules_jobs, Fcheck_job, FRules_rule_of, FRules_stars_of, Ffits_in, Fby_hours, Fminutes_of, Fis_each, Flengths_of, Ftold_never, Finverse, Fput_together, Fall_together, Fcheck_two]
abbrev T31 : List Fn := [Fis_integer, Fis_between, Fis_name, Fread_integer, Fcommon, Fis_time, Fcheck_time, Fis_long_year, Fdays_in, Fdays_ahead, Fdate_by, Fweekday_by, Fread_part, Fread_field, Fread_number, Fcheck_rules, FRules_jobs, Fcheck_job, FRules_rule_of, FRules_stars_of, Ffits_in, Fby_hours, Fminutes_of, Fis_each, Flengths_of, Ftold_never, Finverse, Fput_together, Fall_together, Fcheck_two, Fwhy_apart]
abbrev T32 : List Fn := [Fis_integer, Fis_between, Fis_name, Fread_integer, Fcommon, Fis_time, Fcheck_time, Fis_long_year, Fdays_in, Fdays_ahead, Fdate_by, Fweekday_by, Fread_part, Fread_field, Fread_number, Fcheck_rules, FRules_jobs, Fcheck_job, FRules_rule_of, FRules_stars_of, Ffits_in, Fby_hours, Fminutes_of, Fis_each, Flengths_of, Ftold_never, Finverse, Fput_together, Fall_together, Fcheck_two, Fwhy_apart, FMeeting_days_from]
abbrev T33 : List Fn := [Fis_integer, Fis_between, Fis_name, Fread_integer, Fcommon, Fis_time, Fcheck_time, Fis_long_year, Fdays_in, Fdays_ahead, Fdate_by, Fweekday_by, Fread_part, Fread_field, Fread_number, Fcheck_rules, FRules_jobs, Fcheck_job, FRules_rule_of, FRules_stars_of, Ffits_in, Fby_hours, Fminutes_of, Fis_each, Flengths_of, Ftold_never, Finverse, Fput_together, Fall_together, Fcheck_two, Fwhy_apart, FMeeting_days_from, FMeeting_minutes_on]
abbrev T34 : List Fn := [Fis_integer, Fis_between, Fis_name, Fread_integer, Fcommon, Fis_time, Fcheck_time, Fis_long_year, Fdays_in, Fdays_ahead, Fdate_by, Fweekday_by, Fread_part, Fread_field, Fread_number, Fcheck_rules, FRules_jobs, Fcheck_job, FRules_rule_of, FRules_stars_of, Ffits_in, Fby_hours, Fminutes_of, Fis_each, Flengths_of, Ftold_never, Finverse, Fput_together, Fall_together, Fcheck_two, Fwhy_apart, FMeeting_days_from, FMeeting_minutes_on, FMeeting_first]
abbrev T35 : List Fn := [Fis_integer, Fis_between, Fis_name, Fread_integer, Fcommon, Fis_time, Fcheck_time, Fis_long_year, Fdays_in, Fdays_ahead, Fdate_by, Fweekday_by, Fread_part, Fread_field, Fread_number, Fcheck_rules, FRules_jobs, Fcheck_job, FRules_rule_of, FRules_stars_of, Ffits_in, Fby_hours, Fminutes_of, Fis_each, Flengths_of, Ftold_never, Finverse, Fput_together, Fall_together, Fcheck_two, Fwhy_apart, FMeeting_days_from, FMeeting_minutes_on, FMeeting_first, FMeeting_by_rest]
abbrev T36 : List Fn := [Fis_integer, Fis_between, Fis_name, Fread_integer, Fcommon, Fis_time, Fcheck_time, Fis_long_year, Fdays_in, Fdays_ahead, Fdate_by, Fweekday_by, Fread_part, Fread_field, Fread_number, Fcheck_rules, FRules_jobs, Fcheck_job, FRules_rule_of, FRules_stars_of, Ffits_in, Fby_hours, Fminutes_of, Fis_each, Flengths_of, Ftold_never, Finverse, Fput_together, Fall_together, Fcheck_two, Fwhy_apart, FMeeting_days_from, FMeeting_minutes_on, FMeeting_first, FMeeting_by_rest, FMeeting___init__]
abbrev T37 : List Fn := [Fis_integer, Fis_between, Fis_name, Fread_integer, Fcommon, Fis_time, Fcheck_time, Fis_long_year, Fdays_in, Fdays_ahead, Fdate_by, Fweekday_by, Fread_part, Fread_field, Fread_number, Fcheck_rules, FRules_jobs, Fcheck_job, FRules_rule_of, FRules_stars_of, Ffits_in, Fby_hours, Fminutes_of, Fis_each, Flengths_of, Ftold_never, Finverse, Fput_together, Fall_together, Fcheck_two, Fwhy_apart, FMeeting_days_from, FMeeting_minutes_on, FMeeting_first, FMeeting_by_rest, FMeeting___init__, Fmeet]
abbrev T38 : List Fn := [Fis_integer, Fis_between, Fis_name, Fread_integer, Fcommon, Fis_time, Fcheck_time, Fis_long_year, Fdays_in, Fdays_ahead, Fdate_by, Fweekday_by, Fread_part, Fread_field, Fread_number, Fcheck_rules, FRules_jobs, Fcheck_job, FRules_rule_of, FRules_stars_of, Ffits_in, Fby_hours, Fminutes_of, Fis_each, Flengths_of, Ftold_never, Finverse, Fput_together, Fall_together, Fcheck_two, Fwhy_apart, FMeeting_days_from, FMeeting_minutes_on, FMeeting_first, FMeeting_by_rest, FMeeting___init__, Fmeet, Fnext_meet]
abbrev T39 : List Fn := [Fis_integer, Fis_between, Fis_name, Fread_integer, Fcommon, Fis_time, Fcheck_time, Fis_long_year, Fdays_in, Fdays_ahead, Fdate_by, Fweekday_by, Fread_part, Fread_field, Fread_number, Fcheck_rules, FRules_jobs, Fcheck_job, FRules_rule_of, FRules_stars_of, Ffits_in, Fby_hours, Fminutes_of, Fis_each, Flengths_of, Ftold_never, Finverse, Fput_together, Fall_together, Fcheck_two, Fwhy_apart, FMeeting_days_from, FMeeting_minutes_on, FMeeting_first, FMeeting_by_rest, FMeeting___init__, Fmeet, Fnext_meet, FMeeting_behind]
abbrev T40 : List Fn := [Fis_integer, Fis_between, Fis_name, Fread_integer, Fcommon, Fis_time, Fcheck_time, Fis_long_year, Fdays_in, Fdays_ahead, Fdate_by, Fweekday_by, Fread_part, Fread_field, Fread_number, Fcheck_rules, FRules_jobs, Fcheck_job, FRules_rule_of, FRules_stars_of, Ffits_in, Fby_hours, Fminutes_of, Fis_each, Flengths_of, Ftold_never, Finverse, Fput_together, Fall_together, Fcheck_two, Fwhy_apart, FMeeting_days_from, FMeeting_minutes_on, FMeeting_first, FMeeting_by_rest, FMeeting___init__, Fmeet, Fnext_meet, FMeeting_behind, FMeeting_count]
abbrev T41 : List Fn := [Fis_integer, Fis_between, Fis_name, Fread_integer, Fcommon, Fis_time, Fcheck_time, Fis_long_year, Fdays_in, Fdays_ahead, Fdate_by, Fweekday_by, Fread_part, Fread_field, Fread_number, Fcheck_rules, FRules_jobs, Fcheck_job, FRules_rule_of, FRules_stars_of, Ffits_in, Fby_hours, Fminutes_of, Fis_each, Flengths_of, Ftold_never, Finverse, Fput_together, Fall_together, Fcheck_two, Fwhy_apart, FMeeting_days_from, FMeeting_minutes_on, FMeeting_first, FMeeting_by_rest, FMeeting___init__, Fmeet, Fnext_meet, FMeeting_behind, FMeeting_count, Fmeetings]
abbrev T42 : List Fn := [Fis_integer, Fis_between, Fis_name, Fread_integer, Fcommon, Fis_time, Fcheck_time, Fis_long_year, Fdays_in, Fdays_ahead, Fdate_by, Fweekday_by, Fread_part, Fread_field, Fread_number, Fcheck_rules, FRules_jobs, Fcheck_job, FRules_rule_of, FRules_stars_of, Ffits_in, Fby_hours, Fminutes_of, Fis_each, Flengths_of, Ftold_never, Finverse, Fput_together, Fall_together, Fcheck_two, Fwhy_apart, FMeeting_days_from, FMeeting_minutes_on, FMeeting_first, FMeeting_by_rest, FMeeting___init__, Fmeet, Fnext_meet, FMeeting_behind, FMeeting_count, Fmeetings, F_law_pot]
abbrev T43 : List Fn := [Fis_integer, Fis_between, Fis_name, Fread_integer, Fcommon, Fis_time, Fcheck_time, Fis_long_year, Fdays_in, Fdays_ahead, Fdate_by, Fweekday_by, Fread_part, Fread_field, Fread_number, Fcheck_rules, FRules_jobs, Fcheck_job, FRules_rule_of, FRules_stars_of, Ffits_in, Fby_hours, Fminutes_of, Fis_each, Flengths_of, Ftold_never, Finverse, Fput_together, Fall_together, Fcheck_two, Fwhy_apart, FMeeting_days_from, FMeeting_minutes_on, FMeeting_first, FMeeting_by_rest, FMeeting___init__, Fmeet, Fnext_meet, FMeeting_behind, FMeeting_count, Fmeetings, F_law_pot, F_law_take]
abbrev T44 : List Fn := [Fis_integer, Fis_between, Fis_name, Fread_integer, Fcommon, Fis_time, Fcheck_time, Fis_long_year, Fdays_in, Fdays_ahead, Fdate_by, Fweekday_by, Fread_part, Fread_field, Fread_number, Fcheck_rules, FRules_jobs, Fcheck_job, FRules_rule_of, FRules_stars_of, Ffits_in, Fby_hours, Fminutes_of, Fis_each, Flengths_of, Ftold_never, Finverse, Fput_together, Fall_together, Fcheck_two, Fwhy_apart, FMeeting_days_from, FMeeting_minutes_on, FMeeting_first, FMeeting_by_rest, FMeeting___init__, Fmeet, Fnext_meet, FMeeting_behind, FMeeting_count, Fmeetings, F_law_pot, F_law_take, F_law_of]
abbrev T45 : List Fn := [Fis_integer, Fis_between, Fis_name, Fread_integer, Fcommon, Fis_time, Fcheck_time, Fis_long_year, Fdays_in, Fdays_ahead, Fdate_by, Fweekday_by, Fread_part, Fread_field, Fread_number, Fcheck_rules, FRules_jobs, Fcheck_job, FRules_rule_of, FRules_stars_of, Ffits_in, Fby_hours, Fminutes_of, Fis_each, Flengths_of, Ftold_never, Finverse, Fput_together, Fall_together, Fcheck_two, Fwhy_apart, FMeeting_days_from, FMeeting_minutes_on, FMeeting_first, FMeeting_by_rest, FMeeting___init__, Fmeet, Fnext_meet, FMeeting_behind, FMeeting_count, Fmeetings, F_law_pot, F_law_take, F_law_of, F_law_cells]
abbrev T46 : List Fn := [Fis_integer, Fis_between, Fis_name, Fread_integer, Fcommon, Fis_time, Fcheck_time, Fis_long_year, Fdays_in, Fdays_ahead, Fdate_by, Fweekday_by, Fread_part, Fread_field, Fread_number, Fcheck_rules, FRules_jobs, Fcheck_job, FRules_rule_of, FRules_stars_of, Ffits_in, Fby_hours, Fminutes_of, Fis_each, Flengths_of, Ftold_never, Finverse, Fput_together, Fall_together, Fcheck_two, Fwhy_apart, FMeeting_days_from, FMeeting_minutes_on, FMeeting_first, FMeeting_by_rest, FMeeting___init__, Fmeet, Fnext_meet, FMeeting_behind, FMeeting_count, Fmeetings, F_law_pot, F_law_take, F_law_of, F_law_cells, F_law_some]
abbrev T47 : List Fn := [Fis_integer, Fis_between, Fis_name, Fread_integer, Fcommon, Fis_time, Fcheck_time, Fis_long_year, Fdays_in, Fdays_ahead, Fdate_by, Fweekday_by, Fread_part, Fread_field, Fread_number, Fcheck_rules, FRules_jobs, Fcheck_job, FRules_rule_of, FRules_stars_of, Ffits_in, Fby_hours, Fminutes_of, Fis_each, Flengths_of, Ftold_never, Finverse, Fput_together, Fall_together, Fcheck_two, Fwhy_apart, FMeeting_days_from, FMeeting_minutes_on, FMeeting_first, FMeeting_by_rest, FMeeting___init__, Fmeet, Fnext_meet, FMeeting_behind, FMeeting_count, Fmeetings, F_law_pot, F_law_take, F_law_of, F_law_cells, F_law_some, F_law_name]
abbrev T48 : List Fn := [Fis_integer, Fis_between, Fis_name, Fread_integer, Fcommon, Fis_time, Fcheck_time, Fis_long_year, Fdays_in, Fdays_ahead, Fdate_by, Fweekday_by, Fread_part, Fread_field, Fread_number, Fcheck_rules, FRules_jobs, Fcheck_job, FRules_rule_of, FRules_stars_of, Ffits_in, Fby_hours, Fminutes_of, Fis_each, Flengths_of, Ftold_never, Finverse, Fput_together, Fall_together, Fcheck_two, Fwhy_apart, FMeeting_days_from, FMeeting_minutes_on, FMeeting_first, FMeeting_by_rest, FMeeting___init__, Fmeet, Fnext_meet, FMeeting_behind, FMeeting_count, Fmeetings, F_law_pot, F_law_take, F_law_of, F_law_cells, F_law_some, F_law_name, F_law_names]
abbrev T49 : List Fn := [Fis_integer, Fis_between, Fis_name, Fread_integer, Fcommon, Fis_time, Fcheck_time, Fis_long_year, Fdays_in, Fdays_ahead, Fdate_by, Fweekday_by, Fread_part, Fread_field, Fread_number, Fcheck_rules, FRules_jobs, Fcheck_job, FRules_rule_of, FRules_stars_of, Ffits_in, Fby_hours, Fminutes_of, Fis_each, Flengths_of, Ftold_never, Finverse, Fput_together, Fall_together, Fcheck_two, Fwhy_apart, FMeeting_days_from, FMeeting_minutes_on, FMeeting_first, FMeeting_by_rest, FMeeting___init__, Fmeet, Fnext_meet, FMeeting_behind, FMeeting_count, Fmeetings, F_law_pot, F_law_take, F_law_of, F_law_cells, F_law_some, F_law_name, F_law_names, F_law_common]
abbrev T50 : List Fn := [Fis_integer, Fis_between, Fis_name, Fread_integer, Fcommon, Fis_time, Fcheck_time, Fis_long_year, Fdays_in, Fdays_ahead, Fdate_by, Fweekday_by, Fread_part, Fread_field, Fread_number, Fcheck_rules, FRules_jobs, Fcheck_job, FRules_rule_of, FRules_stars_of, Ffits_in, Fby_hours, Fminutes_of, Fis_each, Flengths_of, Ftold_never, Finverse, Fput_together, Fall_together, Fcheck_two, Fwhy_apart, FMeeting_days_from, FMeeting_minutes_on, FMeeting_first, FMeeting_by_rest, FMeeting___init__, Fmeet, Fnext_meet, FMeeting_behind, FMeeting_count, Fmeetings, F_law_pot, F_law_take, F_law_of, F_law_cells, F_law_some, F_law_name, F_law_names, F_law_common, F_law_two]
abbrev T51 : List Fn := [Fis_integer, Fis_between, Fis_name, Fread_integer, Fcommon, Fis_time, Fcheck_time, Fis_long_year, Fdays_in, Fdays_ahead, Fdate_by, Fweekday_by, Fread_part, Fread_field, Fread_number, Fcheck_rules, FRules_jobs, Fcheck_job, FRules_rule_of, FRules_stars_of, Ffits_in, Fby_hours, Fminutes_of, Fis_each, Flengths_of, Ftold_never, Finverse, Fput_together, Fall_together, Fcheck_two, Fwhy_apart, FMeeting_days_from, FMeeting_minutes_on, FMeeting_first, FMeeting_by_rest, FMeeting___init__, Fmeet, Fnext_meet, FMeeting_behind, FMeeting_count, Fmeetings, F_law_pot, F_law_take, F_law_of, F_law_cells, F_law_some, F_law_name, F_law_names, F_law_common, F_law_two, F_law_met]
abbrev T52 : List Fn := [Fis_integer, Fis_between, Fis_name, Fread_integer, Fcommon, Fis_time, Fcheck_time, Fis_long_year, Fdays_in, Fdays_ahead, Fdate_by, Fweekday_by, Fread_part, Fread_field, Fread_number, Fcheck_rules, FRules_jobs, Fcheck_job, FRules_rule_of, FRules_stars_of, Ffits_in, Fby_hours, Fminutes_of, Fis_each, Flengths_of, Ftold_never, Finverse, Fput_together, Fall_together, Fcheck_two, Fwhy_apart, FMeeting_days_from, FMeeting_minutes_on, FMeeting_first, FMeeting_by_rest, FMeeting___init__, Fmeet, Fnext_meet, FMeeting_behind, FMeeting_count, Fmeetings, F_law_pot, F_law_take, F_law_of, F_law_cells, F_law_some, F_law_name, F_law_names, F_law_common, F_law_two, F_law_met, FRuleReader___init__]
abbrev T53 : List Fn := [Fis_integer, Fis_between, Fis_name, Fread_integer, Fcommon, Fis_time, Fcheck_time, Fis_long_year, Fdays_in, Fdays_ahead, Fdate_by, Fweekday_by, Fread_part, Fread_field, Fread_number, Fcheck_rules, FRules_jobs, Fcheck_job, FRules_rule_of, FRules_stars_of, Ffits_in, Fby_hours, Fminutes_of, Fis_each, Flengths_of, Ftold_never, Finverse, Fput_together, Fall_together, Fcheck_two, Fwhy_apart, FMeeting_days_from, FMeeting_minutes_on, FMeeting_first, FMeeting_by_rest, FMeeting___init__, Fmeet, Fnext_meet, FMeeting_behind, FMeeting_count, Fmeetings, F_law_pot, F_law_take, F_law_of, F_law_cells, F_law_some, F_law_name, F_law_names, F_law_common, F_law_two, F_law_met, FRuleReader___init__, FRuleReader_found]
abbrev T54 : List Fn := [Fis_integer, Fis_between, Fis_name, Fread_integer, Fcommon, Fis_time, Fcheck_time, Fis_long_year, Fdays_in, Fdays_ahead, Fdate_by, Fweekday_by, Fread_part, Fread_field, Fread_number, Fcheck_rules, FRules_jobs, Fcheck_job, FRules_rule_of, FRules_stars_of, Ffits_in, Fby_hours, Fminutes_of, Fis_each, Flengths_of, Ftold_never, Finverse, Fput_together, Fall_together, Fcheck_two, Fwhy_apart, FMeeting_days_from, FMeeting_minutes_on, FMeeting_first, FMeeting_by_rest, FMeeting___init__, Fmeet, Fnext_meet, FMeeting_behind, FMeeting_count, Fmeetings, F_law_pot, F_law_take, F_law_of, F_law_cells, F_law_some, F_law_name, F_law_names, F_law_common, F_law_two, F_law_met, FRuleReader___init__, FRuleReader_found, FRuleReader_takes_long]
abbrev T55 : List Fn := [Fis_integer, Fis_between, Fis_name, Fread_integer, Fcommon, Fis_time, Fcheck_time, Fis_long_year, Fdays_in, Fdays_ahead, Fdate_by, Fweekday_by, Fread_part, Fread_field, Fread_number, Fcheck_rules, FRules_jobs, Fcheck_job, FRules_rule_of, FRules_stars_of, Ffits_in, Fby_hours, Fminutes_of, Fis_each, Flengths_of, Ftold_never, Finverse, Fput_together, Fall_together, Fcheck_two, Fwhy_apart, FMeeting_days_from, FMeeting_minutes_on, FMeeting_first, FMeeting_by_rest, FMeeting___init__, Fmeet, Fnext_meet, FMeeting_behind, FMeeting_count, Fmeetings, F_law_pot, F_law_take, F_law_of, F_law_cells, F_law_some, F_law_name, F_law_names, F_law_common, F_law_two, F_law_met, FRuleReader___init__, FRuleReader_found, FRuleReader_takes_long, FRuleReader_takes_each]
abbrev T56 : List Fn := [Fis_integer, Fis_between, Fis_name, Fread_integer, Fcommon, Fis_time, Fcheck_time, Fis_long_year, Fdays_in, Fdays_ahead, Fdate_by, Fweekday_by, Fread_part, Fread_field, Fread_number, Fcheck_rules, FRules_jobs, Fcheck_job, FRules_rule_of, FRules_stars_of, Ffits_in, Fby_hours, Fminutes_of, Fis_each, Flengths_of, Ftold_never, Finverse, Fput_together, Fall_together, Fcheck_two, Fwhy_apart, FMeeting_days_from, FMeeting_minutes_on, FMeeting_first, FMeeting_by_rest, FMeeting___init__, Fmeet, Fnext_meet, FMeeting_behind, FMeeting_count, Fmeetings, F_law_pot, F_law_take, F_law_of, F_law_cells, F_law_some, F_law_name, F_law_names, F_law_common, F_law_two, F_law_met, FRuleReader___init__, FRuleReader_found, FRuleReader_takes_long, FRuleReader_takes_each, FRuleReader_takes_fields]
abbrev T57 : List Fn := [Fis_integer, Fis_between, Fis_name, Fread_integer, Fcommon, Fis_time, Fcheck_time, Fis_long_year, Fdays_in, Fdays_ahead, Fdate_by, Fweekday_by, Fread_part, Fread_field, Fread_number, Fcheck_rules, FRules_jobs, Fcheck_job, FRules_rule_of, FRules_stars_of, Ffits_in, Fby_hours, Fminutes_of, Fis_each, Flengths_of, Ftold_never, Finverse, Fput_together, Fall_together, Fcheck_two, Fwhy_apart, FMeeting_days_from, FMeeting_minutes_on, FMeeting_first, FMeeting_by_rest, FMeeting___init__, Fmeet, Fnext_meet, FMeeting_behind, FMeeting_count, Fmeetings, F_law_pot, F_law_take, F_law_of, F_law_cells, F_law_some, F_law_name, F_law_names, F_law_common, F_law_two, F_law_met, FRuleReader___init__, FRuleReader_found, FRuleReader_takes_long, FRuleReader_takes_each, FRuleReader_takes_fields, FRuleReader_takes]
abbrev T58 : List Fn := [Fis_integer, Fis_between, Fis_name, Fread_integer, Fcommon, Fis_time, Fcheck_time, Fis_long_year, Fdays_in, Fdays_ahead, Fdate_by, Fweekday_by, Fread_part, Fread_field, Fread_number, Fcheck_rules, FRules_jobs, Fcheck_job, FRules_rule_of, FRules_stars_of, Ffits_in, Fby_hours, Fminutes_of, Fis_each, Flengths_of, Ftold_never, Finverse, Fput_together, Fall_together, Fcheck_two, Fwhy_apart, FMeeting_days_from, FMeeting_minutes_on, FMeeting_first, FMeeting_by_rest, FMeeting___init__, Fmeet, Fnext_meet, FMeeting_behind, FMeeting_count, Fmeetings, F_law_pot, F_law_take, F_law_of, F_law_cells, F_law_some, F_law_name, F_law_names, F_law_common, F_law_two, F_law_met, FRuleReader___init__, FRuleReader_found, FRuleReader_takes_long, FRuleReader_takes_each, FRuleReader_takes_fields, FRuleReader_takes, FRules___init__]
abbrev T59 : List Fn := [Fis_integer, Fis_between, Fis_name, Fread_integer, Fcommon, Fis_time, Fcheck_time, Fis_long_year, Fdays_in, Fdays_ahead, Fdate_by, Fweekday_by, Fread_part, Fread_field, Fread_number, Fcheck_rules, FRules_jobs, Fcheck_job, FRules_rule_of, FRules_stars_of, Ffits_in, Fby_hours, Fminutes_of, Fis_each, Flengths_of, Ftold_never, Finverse, Fput_together, Fall_together, Fcheck_two, Fwhy_apart, FMeeting_days_from, FMeeting_minutes_on, FMeeting_first, FMeeting_by_rest, FMeeting___init__, Fmeet, Fnext_meet, FMeeting_behind, FMeeting_count, Fmeetings, F_law_pot, F_law_take, F_law_of, F_law_cells, F_law_some, F_law_name, F_law_names, F_law_common, F_law_two, F_law_met, FRuleReader___init__, FRuleReader_found, FRuleReader_takes_long, FRuleReader_takes_each, FRuleReader_takes_fields, FRuleReader_takes, FRules___init__, F_law_right]
abbrev T60 : List Fn := [Fis_integer, Fis_between, Fis_name, Fread_integer, Fcommon, Fis_time, Fcheck_time, Fis_long_year, Fdays_in, Fdays_ahead, Fdate_by, Fweekday_by, Fread_part, Fread_field, Fread_number, Fcheck_rules, FRules_jobs, Fcheck_job, FRules_rule_of, FRules_stars_of, Ffits_in, Fby_hours, Fminutes_of, Fis_each, Flengths_of, Ftold_never, Finverse, Fput_together, Fall_together, Fcheck_two, Fwhy_apart, FMeeting_days_from, FMeeting_minutes_on, FMeeting_first, FMeeting_by_rest, FMeeting___init__, Fmeet, Fnext_meet, FMeeting_behind, FMeeting_count, Fmeetings, F_law_pot, F_law_take, F_law_of, F_law_cells, F_law_some, F_law_name, F_law_names, F_law_common, F_law_two, F_law_met, FRuleReader___init__, FRuleReader_found, FRuleReader_takes_long, FRuleReader_takes_each, FRuleReader_takes_fields, FRuleReader_takes, FRules___init__, F_law_right, Flaw]
theorem scis_integer : FnScope Nis_integer Fis_integer.par (defScope (top 11)) := ⟨rfl, rfl, rfl, by decide +kernel, by rfl, by decide +kernel, by decide +kernel⟩
theorem ckis_integer : chkSs (tab T0) Nis_integer (defScope (top 11)) (fun _ => true) Bis_integer (defBody (top 11)) = true := by decide +kernel
theorem scis_between : FnScope Nis_between Fis_between.par (defScope (top 12)) := ⟨rfl, rfl, rfl, by decide +kernel, by rfl, by decide +kernel, by decide +kernel⟩
theorem ckis_between : chkSs (tab T1) Nis_between (defScope (top 12)) (fun _ => true) Bis_between (defBody (top 12)) = true := by decide +kernel
theorem scis_name : FnScope Nis_name Fis_name.par (defScope (top 13)) := ⟨rfl, rfl, rfl, by decide +kernel, by rfl, by decide +kernel, by decide +kernel⟩
theorem ckis_name : chkSs (tab T2) Nis_name (defScope (top 13)) (fun _ => true) Bis_name (defBody (top 13)) = true := by decide +kernel
theorem scread_integer : FnScope Nread_integer Fread_integer.par (defScope (top 14)) := ⟨rfl, rfl, rfl, by decide +kernel, by rfl, by decide +kernel, by decide +kernel⟩
theorem ckread_integer : chkSs (tab T3) Nread_integer (defScope (top 14)) (fun _ => true) Bread_integer (defBody (top 14)) = true := by decide +kernel
theorem sccommon : FnScope Ncommon Fcommon.par (defScope (top 15)) := ⟨rfl, rfl, rfl, by decide +kernel, by rfl, by decide +kernel, by decide +kernel⟩
theorem ckcommon : chkSs (tab T4) Ncommon (defScope (top 15)) (fun _ => true) Bcommon (defBody (top 15)) = true := by decide +kernel
theorem scis_time : FnScope Nis_time Fis_time.par (defScope (top 24)) := ⟨rfl, rfl, rfl, by decide +kernel, by rfl, by decide +kernel, by decide +kernel⟩
theorem ckis_time : chkSs (tab T5) Nis_time (defScope (top 24)) (fun _ => true) Bis_time (defBody (top 24)) = true := by decide +kernel
theorem sccheck_time : FnScope Ncheck_time Fcheck_time.par (defScope (top 25)) := ⟨rfl, rfl, rfl, by decide +kernel, by rfl, by decide +kernel, by decide +kernel⟩
theorem ckcheck_time : chkSs (tab T6) Ncheck_time (defScope (top 25)) (fun _ => true) Bcheck_time (defBody (top 25)) = true := by decide +kernel
theorem scis_long_year : FnScope Nis_long_year Fis_long_year.par (defScope (top 26)) := ⟨rfl, rfl, rfl, by decide +kernel, by rfl, by decide +kernel, by decide +kernel⟩
theorem ckis_long_year : chkSs (tab T7) Nis_long_year (defScope (top 26)) (fun _ => true) Bis_long_year (defBody (top 26)) = true := by decide +kernel
theorem scdays_in : FnScope Ndays_in Fdays_in.par (defScope (top 27)) := ⟨rfl, rfl, rfl, by decide +kernel, by rfl, by decide +kernel, by decide +kernel⟩
theorem ckdays_in : chkSs (tab T8) Ndays_in (defScope (top 27)) (fun _ => true) Bdays_in (defBody (top 27)) = true := by decide +kernel
theorem scdays_ahead : FnScope Ndays_ahead Fdays_ahead.par (defScope (top 28)) := ⟨rfl, rfl, rfl, by decide +kernel, by rfl, by decide +kernel, by decide +kernel⟩
theorem ckdays_ahead : chkSs (tab T9) Ndays_ahead (defScope (top 28)) (fun _ => true) Bdays_ahead (defBody (top 28)) = true := by decide +kernel
theorem scdate_by : FnScope Ndate_by Fdate_by.par (defScope (top 29)) := ⟨rfl, rfl, rfl, by decide +kernel, by rfl, by decide +kernel, by decide +kernel⟩
theorem ckdate_by : chkSs (tab T10) Ndate_by (defScope (top 29)) (fun _ => true) Bdate_by (defBody (top 29)) = true := by decide +kernel
theorem scweekday_by : FnScope Nweekday_by Fweekday_by.par (defScope (top 30)) := ⟨rfl, rfl, rfl, by decide +kernel, by rfl, by decide +kernel, by decide +kernel⟩
theorem ckweekday_by : chkSs (tab T11) Nweekday_by (defScope (top 30)) (fun _ => true) Bweekday_by (defBody (top 30)) = true := by decide +kernel
theorem scread_part : FnScope Nread_part Fread_part.par (defScope (top 43)) := ⟨rfl, rfl, rfl, by decide +kernel, by rfl, by decide +kernel, by decide +kernel⟩
theorem ckread_part : chkSs (tab T12) Nread_part (defScope (top 43)) (fun _ => true) Bread_part (defBody (top 43)) = true := by decide +kernel
theorem scread_field : FnScope Nread_field Fread_field.par (defScope (top 44)) := ⟨rfl, rfl, rfl, by decide +kernel, by rfl, by decide +kernel, by decide +kernel⟩
theorem ckread_field : chkSs (tab T13) Nread_field (defScope (top 44)) (fun _ => true) Bread_field (defBody (top 44)) = true := by decide +kernel
theorem scread_number : FnScope Nread_number Fread_number.par (defScope (top 45)) := ⟨rfl, rfl, rfl, by decide +kernel, by rfl, by decide +kernel, by decide +kernel⟩
theorem ckread_number : chkSs (tab T14) Nread_number (defScope (top 45)) (fun _ => true) Bread_number (defBody (top 45)) = true := by decide +kernel
theorem sccheck_rules : FnScope Ncheck_rules Fcheck_rules.par (defScope (top 49)) := ⟨rfl, rfl, rfl, by decide +kernel, by rfl, by decide +kernel, by decide +kernel⟩
theorem ckcheck_rules : chkSs (tab T15) Ncheck_rules (defScope (top 49)) (fun _ => true) Bcheck_rules (defBody (top 49)) = true := by decide +kernel
theorem scRules_jobs : FnScope NRules_jobs FRules_jobs.par (defScope (L2.inClass (top 48) 3)) := ⟨rfl, rfl, rfl, by decide +kernel, by rfl, by decide +kernel, by decide +kernel⟩
theorem ckRules_jobs : chkSs (tab T16) NRules_jobs (defScope (L2.inClass (top 48) 3)) (fun _ => true) BRules_jobs (defBody (L2.inClass (top 48) 3)) = true := by decide +kernel
theorem sccheck_job : FnScope Ncheck_job Fcheck_job.par (defScope (top 50)) := ⟨rfl, rfl, rfl, by decide +kernel, by rfl, by decide +kernel, by decide +kernel⟩
theorem ckcheck_job : chkSs (tab T17) Ncheck_job (defScope (top 50)) (fun _ => true) Bcheck_job (defBody (top 50)) = true := by decide +kernel
theorem scRules_rule_of : FnScope NRules_rule_of FRules_rule_of.par (defScope (L2.inClass (top 48) 4)) := ⟨rfl, rfl, rfl, by decide +kernel, by rfl, by decide +kernel, by decide +kernel⟩
theorem ckRules_rule_of : chkSs (tab T18) NRules_rule_of (defScope (L2.inClass (top 48) 4)) (fun _ => true) BRules_rule_of (defBody (L2.inClass (top 48) 4)) = true := by decide +kernel
theorem scRules_stars_of : FnScope NRules_stars_of FRules_stars_of.par (defScope (L2.inClass (top 48) 5)) := ⟨rfl, rfl, rfl, by decide +kernel, by rfl, by decide +kernel, by decide +kernel⟩
theorem ckRules_stars_of : chkSs (tab T19) NRules_stars_of (defScope (L2.inClass (top 48) 5)) (fun _ => true) BRules_stars_of (defBody (L2.inClass (top 48) 5)) = true := by decide +kernel
theorem scfits_in : FnScope Nfits_in Ffits_in.par (defScope (top 51)) := ⟨rfl, rfl, rfl, by decide +kernel, by rfl, by decide +kernel, by decide +kernel⟩
theorem ckfits_in : chkSs (tab T20) Nfits_in (defScope (top 51)) (fun _ => true) Bfits_in (defBody (top 51)) = true := by decide +kernel
theorem scby_hours : FnScope Nby_hours Fby_hours.par (defScope (top 53)) := ⟨rfl, rfl, rfl, by decide +kernel, by rfl, by decide +kernel, by decide +kernel⟩
theorem ckby_hours : chkSs (tab T21) Nby_hours (defScope (top 53)) (fun _ => true) Bby_hours (defBody (top 53)) = true := by decide +kernel
theorem scminutes_of : FnScope Nminutes_of Fminutes_of.par (defScope (top 52)) := ⟨rfl, rfl, rfl, by decide +kernel, by rfl, by decide +kernel, by decide +kernel⟩
theorem ckminutes_of : chkSs (tab T22) Nminutes_of (defScope (top 52)) (fun _ => true) Bminutes_of (defBody (top 52)) = true := by decide +kernel
theorem scis_each : FnScope Nis_each Fis_each.par (defScope (top 54)) := ⟨rfl, rfl, rfl, by decide +kernel, by rfl, by decide +kernel, by decide +kernel⟩
theorem ckis_each : chkSs (tab T23) Nis_each (defScope (top 54)) (fun _ => true) Bis_each (defBody (top 54)) = true := by decide +kernel
theorem sclengths_of : FnScope Nlengths_of Flengths_of.par (defScope (top 55)) := ⟨rfl, rfl, rfl, by decide +kernel, by rfl, by decide +kernel, by decide +kernel⟩
theorem cklengths_of : chkSs (tab T24) Nlengths_of (defScope (top 55)) (fun _ => true) Blengths_of (defBody (top 55)) = true := by decide +kernel
theorem sctold_never : FnScope Ntold_never Ftold_never.par (defScope (top 56)) := ⟨rfl, rfl, rfl, by decide +kernel, by rfl, by decide +kernel, by decide +kernel⟩
theorem cktold_never : chkSs (tab T25) Ntold_never (defScope (top 56)) (fun _ => true) Btold_never (defBody (top 56)) = true := by decide +kernel
theorem scinverse : FnScope Ninverse Finverse.par (defScope (top 59)) := ⟨rfl, rfl, rfl, by decide +kernel, by rfl, by decide +kernel, by decide +kernel⟩
theorem ckinverse : chkSs (tab T26) Ninverse (defScope (top 59)) (fun _ => true) Binverse (defBody (top 59)) = true := by decide +kernel
theorem scput_together : FnScope Nput_together Fput_together.par (defScope (top 58)) := ⟨rfl, rfl, rfl, by decide +kernel, by rfl, by decide +kernel, by decide +kernel⟩
theorem ckput_together : chkSs (tab T27) Nput_together (defScope (top 58)) (fun _ => true) Bput_together (defBody (top 58)) = true := by decide +kernel
theorem scall_together : FnScope Nall_together Fall_together.par (defScope (top 60)) := ⟨rfl, rfl, rfl, by decide +kernel, by rfl, by decide +kernel, by decide +kernel⟩
theorem ckall_together : chkSs (tab T28) Nall_together (defScope (top 60)) (fun _ => true) Ball_together (defBody (top 60)) = true := by decide +kernel
theorem sccheck_two : FnScope Ncheck_two Fcheck_two.par (defScope (top 69)) := ⟨rfl, rfl, rfl, by decide +kernel, by rfl, by decide +kernel, by decide +kernel⟩
theorem ckcheck_two : chkSs (tab T29) Ncheck_two (defScope (top 69)) (fun _ => true) Bcheck_two (defBody (top 69)) = true := by decide +kernel
theorem scwhy_apart : FnScope Nwhy_apart Fwhy_apart.par (defScope (top 70)) := ⟨rfl, rfl, rfl, by decide +kernel, by rfl, by decide +kernel, by decide +kernel⟩
theorem ckwhy_apart : chkSs (tab T30) Nwhy_apart (defScope (top 70)) (fun _ => true) Bwhy_apart (defBody (top 70)) = true := by decide +kernel
theorem scMeeting_days_from : FnScope NMeeting_days_from FMeeting_days_from.par (defScope (L2.inClass (top 68) 3)) := ⟨rfl, rfl, rfl, by decide +kernel, by rfl, by decide +kernel, by decide +kernel⟩
theorem ckMeeting_days_from : chkSs (tab T31) NMeeting_days_from (defScope (L2.inClass (top 68) 3)) (fun _ => true) BMeeting_days_from (defBody (L2.inClass (top 68) 3)) = true := by decide +kernel
theorem scMeeting_minutes_on : FnScope NMeeting_minutes_on FMeeting_minutes_on.par (defScope (L2.inClass (top 68) 2)) := ⟨rfl, rfl, rfl, by decide +kernel, by rfl, by decide +kernel, by decide +kernel⟩
theorem ckMeeting_minutes_on : chkSs (tab T32) NMeeting_minutes_on (defScope (L2.inClass (top 68) 2)) (fun _ => true) BMeeting_minutes_on (defBody (L2.inClass (top 68) 2)) = true := by decide +kernel
theorem scMeeting_first : FnScope NMeeting_first FMeeting_first.par (defScope (L2.inClass (top 68) 4)) := ⟨rfl, rfl, rfl, by decide +kernel, by rfl, by decide +kernel, by decide +kernel⟩
theorem ckMeeting_first : chkSs (tab T33) NMeeting_first (defScope (L2.inClass (top 68) 4)) (fun _ => true) BMeeting_first (defBody (L2.inClass (top 68) 4)) = true := by decide +kernel
theorem scMeeting_by_rest : FnScope NMeeting_by_rest FMeeting_by_rest.par (defScope (L2.inClass (top 68) 1)) := ⟨rfl, rfl, rfl, by decide +kernel, by rfl, by decide +kernel, by decide +kernel⟩
theorem ckMeeting_by_rest : chkSs (tab T34) NMeeting_by_rest (defScope (L2.inClass (top 68) 1)) (fun _ => true) BMeeting_by_rest (defBody (L2.inClass (top 68) 1)) = true := by decide +kernel
theorem scMeeting___init__ : FnScope NMeeting___init__ FMeeting___init__.par (defScope (L2.inClass (top 68) 0)) := ⟨rfl, rfl, rfl, by decide +kernel, by rfl, by decide +kernel, by decide +kernel⟩
theorem ckMeeting___init__ : chkSs (tab T35) NMeeting___init__ (defScope (L2.inClass (top 68) 0)) (fun _ => true) BMeeting___init__ (defBody (L2.inClass (top 68) 0)) = true := by decide +kernel
theorem scmeet : FnScope Nmeet Fmeet.par (defScope (top 71)) := ⟨rfl, rfl, rfl, by decide +kernel, by rfl, by decide +kernel, by decide +kernel⟩
theorem ckmeet : chkSs (tab T36) Nmeet (defScope (top 71)) (fun _ => true) Bmeet (defBody (top 71)) = true := by decide +kernel
theorem scnext_meet : FnScope Nnext_meet Fnext_meet.par (defScope (top 72)) := ⟨rfl, rfl, rfl, by decide +kernel, by rfl, by decide +kernel, by decide +kernel⟩
theorem cknext_meet : chkSs (tab T37) Nnext_meet (defScope (top 72)) (fun _ => true) Bnext_meet (defBody (top 72)) = true := by decide +kernel
theorem scMeeting_behind : FnScope NMeeting_behind FMeeting_behind.par (defScope (L2.inClass (top 68) 6)) := ⟨rfl, rfl, rfl, by decide +kernel, by rfl, by decide +kernel, by decide +kernel⟩
theorem ckMeeting_behind : chkSs (tab T38) NMeeting_behind (defScope (L2.inClass (top 68) 6)) (fun _ => true) BMeeting_behind (defBody (L2.inClass (top 68) 6)) = true := by decide +kernel
theorem scMeeting_count : FnScope NMeeting_count FMeeting_count.par (defScope (L2.inClass (top 68) 5)) := ⟨rfl, rfl, rfl, by decide +kernel, by rfl, by decide +kernel, by decide +kernel⟩
theorem ckMeeting_count : chkSs (tab T39) NMeeting_count (defScope (L2.inClass (top 68) 5)) (fun _ => true) BMeeting_count (defBody (L2.inClass (top 68) 5)) = true := by decide +kernel
theorem scmeetings : FnScope Nmeetings Fmeetings.par (defScope (top 73)) := ⟨rfl, rfl, rfl, by decide +kernel, by rfl, by decide +kernel, by decide +kernel⟩
theorem ckmeetings : chkSs (tab T40) Nmeetings (defScope (top 73)) (fun _ => true) Bmeetings (defBody (top 73)) = true := by decide +kernel
theorem sc_law_pot : FnScope N_law_pot F_law_pot.par (defScope (top 75)) := ⟨rfl, rfl, rfl, by decide +kernel, by rfl, by decide +kernel, by decide +kernel⟩
theorem ck_law_pot : chkSs (tab T41) N_law_pot (defScope (top 75)) (fun _ => true) B_law_pot (defBody (top 75)) = true := by decide +kernel
theorem sc_law_take : FnScope N_law_take F_law_take.par (defScope (top 76)) := ⟨rfl, rfl, rfl, by decide +kernel, by rfl, by decide +kernel, by decide +kernel⟩
theorem ck_law_take : chkSs (tab T42) N_law_take (defScope (top 76)) (fun _ => true) B_law_take (defBody (top 76)) = true := by decide +kernel
theorem sc_law_of : FnScope N_law_of F_law_of.par (defScope (top 77)) := ⟨rfl, rfl, rfl, by decide +kernel, by rfl, by decide +kernel, by decide +kernel⟩
theorem ck_law_of : chkSs (tab T43) N_law_of (defScope (top 77)) (fun _ => true) B_law_of (defBody (top 77)) = true := by decide +kernel
theorem sc_law_cells : FnScope N_law_cells F_law_cells.par (defScope (top 78)) := ⟨rfl, rfl, rfl, by decide +kernel, by rfl, by decide +kernel, by decide +kernel⟩
theorem ck_law_cells : chkSs (tab T44) N_law_cells (defScope (top 78)) (fun _ => true) B_law_cells (defBody (top 78)) = true := by decide +kernel
theorem sc_law_some : FnScope N_law_some F_law_some.par (defScope (top 79)) := ⟨rfl, rfl, rfl, by decide +kernel, by rfl, by decide +kernel, by decide +kernel⟩
theorem ck_law_some : chkSs (tab T45) N_law_some (defScope (top 79)) (fun _ => true) B_law_some (defBody (top 79)) = true := by decide +kernel
theorem sc_law_name : FnScope N_law_name F_law_name.par (defScope (top 80)) := ⟨rfl, rfl, rfl, by decide +kernel, by rfl, by decide +kernel, by decide +kernel⟩
theorem ck_law_name : chkSs (tab T46) N_law_name (defScope (top 80)) (fun _ => true) B_law_name (defBody (top 80)) = true := by decide +kernel
theorem sc_law_names : FnScope N_law_names F_law_names.par (defScope (top 81)) := ⟨rfl, rfl, rfl, by decide +kernel, by rfl, by decide +kernel, by decide +kernel⟩
theorem ck_law_names : chkSs (tab T47) N_law_names (defScope (top 81)) (fun _ => true) B_law_names (defBody (top 81)) = true := by decide +kernel
theorem sc_law_common : FnScope N_law_common F_law_common.par (defScope (top 82)) := ⟨rfl, rfl, rfl, by decide +kernel, by rfl, by decide +kernel, by decide +kernel⟩
theorem ck_law_common : chkSs (tab T48) N_law_common (defScope (top 82)) (fun _ => true) B_law_common (defBody (top 82)) = true := by decide +kernel
theorem sc_law_two : FnScope N_law_two F_law_two.par (defScope (top 83)) := ⟨rfl, rfl, rfl, by decide +kernel, by rfl, by decide +kernel, by decide +kernel⟩
theorem ck_law_two : chkSs (tab T49) N_law_two (defScope (top 83)) (fun _ => true) B_law_two (defBody (top 83)) = true := by decide +kernel
theorem sc_law_met : FnScope N_law_met F_law_met.par (defScope (top 84)) := ⟨rfl, rfl, rfl, by decide +kernel, by rfl, by decide +kernel, by decide +kernel⟩
theorem ck_law_met : chkSs (tab T50) N_law_met (defScope (top 84)) (fun _ => true) B_law_met (defBody (top 84)) = true := by decide +kernel
theorem scRuleReader___init__ : FnScope NRuleReader___init__ FRuleReader___init__.par (defScope (L2.inClass (top 46) 0)) := ⟨rfl, rfl, rfl, by decide +kernel, by rfl, by decide +kernel, by decide +kernel⟩
theorem ckRuleReader___init__ : chkSs (tab T51) NRuleReader___init__ (defScope (L2.inClass (top 46) 0)) (fun _ => true) BRuleReader___init__ (defBody (L2.inClass (top 46) 0)) = true := by decide +kernel
theorem scRuleReader_found : FnScope NRuleReader_found FRuleReader_found.par (defScope (L2.inClass (top 46) 5)) := ⟨rfl, rfl, rfl, by decide +kernel, by rfl, by decide +kernel, by decide +kernel⟩
theorem ckRuleReader_found : chkSs (tab T52) NRuleReader_found (defScope (L2.inClass (top 46) 5)) (fun _ => true) BRuleReader_found (defBody (L2.inClass (top 46) 5)) = true := by decide +kernel
theorem scRuleReader_takes_long : FnScope NRuleReader_takes_long FRuleReader_takes_long.par (defScope (L2.inClass (top 46) 4)) := ⟨rfl, rfl, rfl, by decide +kernel, by rfl, by decide +kernel, by decide +kernel⟩
theorem ckRuleReader_takes_long : chkSs (tab T53) NRuleReader_takes_long (defScope (L2.inClass (top 46) 4)) (fun _ => true) BRuleReader_takes_long (defBody (L2.inClass (top 46) 4)) = true := by decide +kernel
theorem scRuleReader_takes_each : FnScope NRuleReader_takes_each FRuleReader_takes_each.par (defScope (L2.inClass (top 46) 2)) := ⟨rfl, rfl, rfl, by decide +kernel, by rfl, by decide +kernel, by decide +kernel⟩
theorem ckRuleReader_takes_each : chkSs (tab T54) NRuleReader_takes_each (defScope (L2.inClass (top 46) 2)) (fun _ => true) BRuleReader_takes_each (defBody (L2.inClass (top 46) 2)) = true := by decide +kernel
theorem scRuleReader_takes_fields : FnScope NRuleReader_takes_fields FRuleReader_takes_fields.par (defScope (L2.inClass (top 46) 3)) := ⟨rfl, rfl, rfl, by decide +kernel, by rfl, by decide +kernel, by decide +kernel⟩
theorem ckRuleReader_takes_fields : chkSs (tab T55) NRuleReader_takes_fields (defScope (L2.inClass (top 46) 3)) (fun _ => true) BRuleReader_takes_fields (defBody (L2.inClass (top 46) 3)) = true := by decide +kernel
theorem scRuleReader_takes : FnScope NRuleReader_takes FRuleReader_takes.par (defScope (L2.inClass (top 46) 1)) := ⟨rfl, rfl, rfl, by decide +kernel, by rfl, by decide +kernel, by decide +kernel⟩
theorem ckRuleReader_takes : chkSs (tab T56) NRuleReader_takes (defScope (L2.inClass (top 46) 1)) (fun _ => true) BRuleReader_takes (defBody (L2.inClass (top 46) 1)) = true := by decide +kernel
theorem scRules___init__ : FnScope NRules___init__ FRules___init__.par (defScope (L2.inClass (top 48) 0)) := ⟨rfl, rfl, rfl, by decide +kernel, by rfl, by decide +kernel, by decide +kernel⟩
theorem ckRules___init__ : chkSs (tab T57) NRules___init__ (defScope (L2.inClass (top 48) 0)) (fun _ => true) BRules___init__ (defBody (L2.inClass (top 48) 0)) = true := by decide +kernel
theorem sc_law_right : FnScope N_law_right F_law_right.par (defScope (top 85)) := ⟨rfl, rfl, rfl, by decide +kernel, by rfl, by decide +kernel, by decide +kernel⟩
theorem ck_law_right : chkSs (tab T58) N_law_right (defScope (top 85)) (fun _ => true) B_law_right (defBody (top 85)) = true := by decide +kernel
theorem sclaw : FnScope Nlaw Flaw.par (defScope (top 86)) := ⟨rfl, rfl, rfl, by decide +kernel, by rfl, by decide +kernel, by decide +kernel⟩
theorem cklaw : chkSs (tab T59) Nlaw (defScope (top 86)) (fun _ => true) Blaw (defBody (top 86)) = true := by decide +kernel
end K11
set_option pp.deepTerms false
set_option pp.maxSteps 120
namespace K11
open PySem PySem.Spec AA TL
open L2 (FnScope defScope defBody)
open K10 (gcd_pos' gcd_turn lcm_eq dvd_of_mod pow_small put_math gcd_div_one)
open K25 (Hit FirstK hit_ex hit_no gcd_dvds rest_step)
theorem okis_integer : ∀ ds M Q X, ds.length = Fis_integer.par.length → Fis_integer.sp ds M Q X → wpSs (tab T0) Bis_integer (dEnds Q X) (dstart Nis_integer ds) M := by
  intro ds M Q X hl h
  obtain ⟨d, rfl, h⟩ := h
  cases d <;> simp [Bis_integer, wpSs, wpS, wpE, slotD, dstart, Nis_integer, isiD, asBl, asTru, truD] at h ⊢ <;> exact h
theorem okis_between : ∀ ds M Q X, ds.length = Fis_between.par.length → Fis_between.sp ds M Q X → wpSs (tab T1) Bis_between (dEnds Q X) (dstart Nis_between ds) M := by
  intro ds M Q X hl h
  obtain ⟨d, a, b, rfl, h⟩ := h
  cases d with
  | int i =>
    have h : Q (.bl (decide (a ≤ i ∧ i ≤ b))) M := h
    refine ⟨rfl, .int i, rfl, ?_⟩
    by_cases h1 : a ≤ i
    · refine iteT (c := decide (a ≤ i) = true) (decide_eq_true h1) ?_
      rw [show decide (a ≤ i ∧ i ≤ b) = decide (i ≤ b) by simp [h1]] at h
      exact h
    · refine iteF (c := decide (a ≤ i) = true) (by rw [decide_eq_false h1]; decide) ?_
      rw [show decide (a ≤ i ∧ i ≤ b) = false by simp [h1]] at h
      exact h
  | _ => first | exact h.elim | exact ⟨rfl, _, rfl, h⟩
theorem common_loop {Γ : Tab} {E : DE} {M : Mem} : ∀ (n : Nat) (a b : Int), 0 < a → 0 ≤ b → b < n → E.nx [some (.int (Int.gcd a b)), some (.int 0)] M →
    whileN (wpT Γ (.cmp .ne (.var 1) (.int 0))) (wpSs Γ (.cons (.par 0 1 (.var 1) (.bin .mod (.var 0) (.var 1))) .nil)) E (n + 1) [some (.int a), some (.int b)] M
  | 0, a, b, ha, hb, hn, h => by omega
  | n + 1, a, b, ha, hb, hn, h => by
    unfold whileN
    simp only [↓wpT, ↓wpE, ↓slotD, List.getElem?_cons_succ, List.getElem?_cons_zero, cmp_ne_int]
    by_cases z : b = 0
    · subst z
      simpa [Int.natAbs_of_nonneg (Int.le_of_lt ha)] using h
    · have hb' : 0 < b := by omega
      have m0 := Int.emod_nonneg a (show b ≠ 0 by omega)
      have m1 := Int.emod_lt_of_pos a hb'
      simp only [z, ne_eq, not_false_eq_true, decide_true, if_true, ↓wpSs, ↓wpS, ↓wpEs, ↓wpE, ↓slotD, List.getElem?_cons_succ, List.getElem?_cons_zero, ↓binD, ↓twoD, List.set_cons_zero, List.set_cons_succ]
      refine ⟨hb', ?_⟩
      refine common_loop (Γ := Γ) n b (a % b) hb' m0 (by omega) ?_
      rw [gcd_turn ha hb']
      exact h
theorem okcommon : ∀ ds M Q X, ds.length = Fcommon.par.length → Fcommon.sp ds M Q X → wpSs (tab T4) Bcommon (dEnds Q X) (dstart Ncommon ds) M := by
  intro ds M Q X hl h
  obtain ⟨a, b, rfl, ha, hb, h⟩ := h
  simp only [Bcommon, ↓wpSs, ↓wpS]
  refine ⟨b.toNat + 2, common_loop _ a b ha (by omega) (by omega) ?_⟩
  simp only [↓wpE, ↓wpEs, ↓slotD, List.getElem?_cons_zero, ↓biD]
  have : ¬ ((Int.gcd a b : Int) < 0) := by omega
  rw [if_neg this]
  exact h
theorem ok_law_take : ∀ ds M Q X, ds.length = F_law_take.par.length → F_law_take.sp ds M Q X → wpSs (tab T42) B_law_take (dEnds Q X) (dstart N_law_take ds) M := by
  intro ds M Q X hl h
  obtain ⟨n, own, small, cnt, upto, rfl, hM, c0, c1, s0, s1, u0, u1, h⟩ := h
  have hs : seqD M (.ref n) = some [.int own, .int small, .int cnt] := seqD_ref hM
  refine idxD_of hs rfl ?_
  by_cases z : 0 < own
  · refine iteT (c := decide (0 < own) = true) (by simpa using z) ?_
    refine idxD_of hs rfl ?_
    refine ⟨u0, ?_⟩
    refine idxD_of hs rfl ?_
    refine ⟨div_ok u0 (by omega), ?_⟩
    conv => whnf
    rw [hM]
    exact h _ _ cnt (Int.emod_nonneg _ (by omega)) (Int.emod_lt_of_pos _ u0) c0 (by omega)
  · refine iteF (c := decide (0 < own) = true) (by simpa using z) ?_
    refine idxD_of hs rfl ?_
    conv => whnf
    rw [hM]
    have hM2 : (M.set n (potL own small (cnt + 1)))[n]? = some (potL own small (cnt + 1)) := set_get hM
    have hs2 : seqD (M.set n (potL own small (cnt + 1))) (.ref n) = some [.int own, .int small, .int (cnt + 1)] := seqD_ref hM2
    refine ⟨(by decide : (5 : Nat) ≤ 16777216), ?_⟩
    refine idxD_of hs2 rfl ?_
    refine ⟨by decide, ?_⟩
    obtain ⟨p, hp, p0, p1⟩ : ∃ p : Int, L2.atI [D.int 2147483647, .int 2147483629, .int 2147483587, .int 2147483579, .int 2147483563] ((cnt + 1) % 5) = some (.int p) ∧ 0 < p ∧ p < 2147483648 := by
      have k0 := Int.emod_nonneg (cnt + 1) (show (5 : Int) ≠ 0 by decide)
      have k1 := Int.emod_lt_of_pos (cnt + 1) (show (0 : Int) < 5 by decide)
      generalize (cnt + 1) % 5 = r at *
      have : r = 0 ∨ r = 1 ∨ r = 2 ∨ r = 3 ∨ r = 4 := by omega
      rcases this with rfl | rfl | rfl | rfl | rfl <;> exact ⟨_, rfl, by decide, by decide⟩
    refine idxD_of rfl hp ?_
    refine idxD_of hs2 rfl ?_
    refine idxD_of hs2 rfl ?_
    refine ⟨mul_l (by decide) (by decide), ?_⟩
    refine idxD_of hs2 rfl ?_
    refine ⟨mul_r (by omega) (by omega), ?_⟩
    have a0 : (0 : Int) ≤ 116819 * (cnt + 1) * (cnt + 1) := Int.mul_nonneg (Int.mul_nonneg (by decide) (by omega)) (by omega)
    have a1 : 116819 * (cnt + 1) * (cnt + 1) ≤ 116819 * 1000000 * 1000000 := Int.mul_le_mul (Int.mul_le_mul_of_nonneg_left (by omega) (by decide)) (by omega) (by omega) (by decide)
    refine ⟨pow_ok ?_ (by decide) (by decide), p0, ?_⟩
    · have : (small + 116819 * (cnt + 1) * (cnt + 1) + 5105).natAbs < 2 ^ 70 := by
        have e : (2 : Nat) ^ 70 = 1180591620717411303424 := by decide
        rw [e]
        omega
      exact Nat.lt_of_lt_of_le this (Nat.pow_le_pow_right (by decide) (by decide))
    have b0 := Int.emod_nonneg ((small + 116819 * (cnt + 1) * (cnt + 1) + 5105) ^ (3 : Int).toNat) (show p ≠ 0 by omega)
    have b1 := Int.emod_lt_of_pos ((small + 116819 * (cnt + 1) * (cnt + 1) + 5105) ^ (3 : Int).toNat) p0
    refine ⟨by decide, ?_⟩
    refine idxD_of hs2 rfl ?_
    refine ⟨mul_l (by decide) (by decide), mul_l (by omega) (by omega), by decide, div_ok (by decide) (by decide), u0, ?_⟩
    exact h _ own (cnt + 1) (Int.emod_nonneg _ (by omega)) (Int.emod_lt_of_pos _ u0) (by omega) (by omega)
theorem ref_seq {M : Mem} {k : Nat} {xs : List D} (h : seqD M (.ref k) = some xs) : M[k]? = some (.lst xs) := by
  simp only [seqD] at h
  split at h
  · rename_i ys e
    cases h
    exact e
  · cases h
theorem ok_law_of : ∀ ds M Q X, ds.length = F_law_of.par.length → F_law_of.sp ds M Q X → wpSs (tab T43) B_law_of (dEnds Q X) (dstart N_law_of ds) M := by
  intro ds M Q X hl h
  obtain ⟨n, own, small, cnt, x, xs, rfl, hx, hs, hne, hlen, hM, c0, c1, s0, s1, h⟩ := h
  have lp : 0 < xs.length := List.length_pos_iff.mpr hne
  have body : F_law_take.sp [.ref n, .int xs.length] M (fun d M1 => idxD M1 x d fun d => Q d M1) X := by
    refine ⟨n, own, small, cnt, xs.length, rfl, hM, c0, c1, s0, s1, by omega, by omega, fun d own' cnt' d0 d1 k0 k1 => ?_⟩
    obtain ⟨e, he, ha⟩ := atI_nat d0 d1
    exact idxD_of ((seqD_set hx).trans hs) ha (h e he own' cnt' k0 k1)
  cases x with
  | tup ys => cases hs; exact ⟨rfl, body⟩
  | lst ys => cases hs; exact ⟨rfl, body⟩
  | ref k =>
    have hk := ref_seq hs
    conv => whnf
    rw [hk]
    exact ⟨rfl, body⟩
  | _ => cases hs
theorem ok_law_cells : ∀ ds M Q X, ds.length = F_law_cells.par.length → F_law_cells.sp ds M Q X → wpSs (tab T44) B_law_cells (dEnds Q X) (dstart N_law_cells ds) M := by
  intro ds M Q X hl h
  obtain ⟨ns, hn, rfl, h⟩ := h
  have e : (ns.map D.int).length = ns.length := List.length_map ..
  have key : ∀ k : Int, 1 ≤ k → k ≤ 2 → RgB 0 ∧ RgB k ∧ (k - 0).toNat ≤ 16777216 ∧ Q (.lst (rngL 0 (k - 0).toNat)) M := fun k k0 k1 => ⟨⟨by decide, by decide⟩, ⟨by omega, by omega⟩, by omega, h _ (by omega)⟩
  have goal : RgB 0 ∧ RgB (if (if ((ns.map D.int).length : Int) < 2 then ((ns.map D.int).length : Int) else 2) > 1 then (if ((ns.map D.int).length : Int) < 2 then ((ns.map D.int).length : Int) else 2) else 1) ∧ _ ∧ _ := key _ (by split <;> omega) (by split <;> split <;> omega)
  exact goal
theorem ok_law_pot : ∀ ds M Q X, ds.length = F_law_pot.par.length → F_law_pot.sp ds M Q X → wpSs (tab T41) B_law_pot (dEnds Q X) (dstart N_law_pot ds) M := by
  intro ds M Q X hl h
  obtain ⟨ns, k, rfl, hk, h⟩ := h
  have tail : ∀ c : Int, wpSs (tab T41) (restS B_law_pot) (dEnds Q X) [some (.lst (ns.map D.int)), some (.int k), some (.int c), none, none] M := by
    intro c
    have s0 := Int.emod_nonneg c (show (2305843009213693951 : Int) ≠ 0 by decide)
    have s1 := Int.emod_lt_of_pos c (show (0 : Int) < 2305843009213693951 by decide)
    have f0 := Int.emod_nonneg (c % 2305843009213693951 * 110443 + 22031 * k * k + 9715) (show (2305843009213693921 : Int) ≠ 0 by decide)
    have f1 := Int.emod_lt_of_pos (c % 2305843009213693951 * 110443 + 22031 * k * k + 9715) (show (0 : Int) < 2305843009213693921 by decide)
    refine ⟨pow_ok (by decide) (by decide) (by decide), pow_ok (by decide) (by decide) (by decide), by decide, pow_ok (by decide) (by decide) (by decide), ?_⟩
    refine ⟨mul_r (b2i_le _).1 (b2i_le _).2, by decide, mul_r (by decide) (by decide), mul_l (by decide) (by decide), mul_r (by omega) (by omega), by decide, (by decide : (3 : Nat) ≤ 16777216), ?_⟩
    exact h _ _ f0 (by omega)
  by_cases z : k < ns.length
  · refine iteT (c := decide ((k : Int) < ((ns.map D.int).length : Int)) = true) (by simpa using z) ?_
    refine idxD_of (M := M) (x := .lst (ns.map D.int)) rfl (atI_ints z) ?_
    exact tail _
  · refine iteF (c := decide ((k : Int) < ((ns.map D.int).length : Int)) = true) (by simpa using z) ?_
    obtain ⟨ms, e⟩ := cutL_ints ns none (some 1)
    conv => whnf
    rw [e, intsD_map]
    exact ⟨by decide, mul_l (by decide) (by decide), tail _⟩
/-- behind a draw: the pot's count grew by one at most, all else stands -/
structure Drawn (M M' : Mem) (n : Nat) (c : Int) : Prop where
  pot : Pot M' n (c + 1)
  oth : ∀ k, k ≠ n → M'[k]? = M[k]?
  len : M'.length = M.length
theorem take_call {M : Mem} {n : Nat} {c upto : Int} {Q : DK} {X : XD} (hp : Pot M n c) (hc : c < 1000000) (u0 : 0 < upto) (u1 : upto ≤ 1000000000) (h : ∀ d M', 0 ≤ d → d < upto → Drawn M M' n c → Q (.int d) M') : F_law_take.sp [.ref n, .int upto] M Q X := by
  obtain ⟨own, small, cnt, hM, c0, c1, s0, s1⟩ := hp
  exact ⟨n, own, small, cnt, upto, rfl, hM, c0, by omega, s0, s1, u0, u1, fun d own' cnt' d0 d1 k0 k1 => h d _ d0 d1 ⟨⟨own', small, cnt', set_get hM, k0, by omega, s0, s1⟩, fun k hk => List.getElem?_set_ne (Ne.symm hk), List.length_set ..⟩⟩
theorem of_call {M : Mem} {n : Nat} {c : Int} {x : D} {xs : List D} {Q : DK} {X : XD} (hp : Pot M n c) (hc : c < 1000000) (hx : x ≠ .ref n) (hs : seqD M x = some xs) (hne : xs ≠ []) (hl : xs.length ≤ 1000) (h : ∀ d M', d ∈ xs → Drawn M M' n c → Q d M') : F_law_of.sp [.ref n, x] M Q X := by
  obtain ⟨own, small, cnt, hM, c0, c1, s0, s1⟩ := hp
  exact ⟨n, own, small, cnt, x, xs, rfl, hx, hs, hne, hl, hM, c0, by omega, s0, s1, fun d hd own' cnt' k0 k1 => h d _ hd ⟨⟨own', small, cnt', set_get hM, k0, by omega, s0, s1⟩, fun k hk => List.getElem?_set_ne (Ne.symm hk), List.length_set ..⟩⟩
theorem Pot.le {M : Mem} {n : Nat} {c c' : Int} (h : Pot M n c) (k : c ≤ c') : Pot M n c' := by
  obtain ⟨o, s, t, h1, h2, h3, h4⟩ := h
  exact ⟨o, s, t, h1, h2, by omega, h4⟩
/-! ### names, numbers, times -/
theorem atI_zero {A : Type} {a : A} {r : List A} : L2.atI (a :: r) 0 = some a := by
  unfold L2.atI L2.ixN
  rw [if_pos (by decide), if_pos (by rw [List.length_cons]; omega)]
  rfl
theorem okis_name : ∀ ds M Q X, ds.length = Fis_name.par.length → Fis_name.sp ds M Q X → wpSs (tab T2) Bis_name (dEnds Q X) (dstart Nis_name ds) M := by
  intro ds M Q X hl h
  obtain ⟨w, rfl, hw, h⟩ := h
  obtain ⟨a, r, e, ha⟩ := hw.head
  have len := hw.len
  have ln : w.length = (tl w).length := len_tl w
  rw [e, List.length_cons] at ln
  refine ⟨by omega, ?_⟩
  refine iteT (c := decide ((0 : Int) < (w.length : Int)) = true) (decide_eq_true (by omega)) ?_
  refine iteF (c := (!decide ((w.length : Int) ≤ 8)) = true) (by rw [decide_eq_true (by omega)]; decide) ?_
  conv => whnf
  rw [show L2.atI w.cps.toList 0 = some a by rw [show w.cps.toList = a :: r from e]; exact atI_zero]
  refine ⟨by omega, ?_⟩
  refine iteF (c := (!(!(Builtin.Str.occurrences ("abcdefghijklmnopqrstuvwxyz" : Str) ⟨#[a]⟩ 0 ("abcdefghijklmnopqrstuvwxyz" : Str).length 1).isEmpty)) = true) (by rw [in_letters, ha]; decide) ?_
  refine comp_signs (fun c => isL c || isF c) w (by omega) hw.all (fun c => ⟨_, rfl, fun R X hR => ?_⟩) ?_
  · have e1 := in_letters c
    have e2 := in_figures c
    cases hc : isL c with
    | true =>
      rw [hc] at e1 hR
      show (if (!(Builtin.Str.occurrences ("abcdefghijklmnopqrstuvwxyz" : Str) ⟨#[c]⟩ 0 ("abcdefghijklmnopqrstuvwxyz" : Str).length 1).isEmpty) = true then R (.bl true) M else R (.bl (!(Builtin.Str.occurrences ("0123456789" : Str) ⟨#[c]⟩ 0 ("0123456789" : Str).length 1).isEmpty)) M)
      rw [e1, if_pos rfl]
      exact hR
    | false =>
      rw [hc] at e1 hR
      show (if (!(Builtin.Str.occurrences ("abcdefghijklmnopqrstuvwxyz" : Str) ⟨#[c]⟩ 0 ("abcdefghijklmnopqrstuvwxyz" : Str).length 1).isEmpty) = true then R (.bl true) M else R (.bl (!(Builtin.Str.occurrences ("0123456789" : Str) ⟨#[c]⟩ 0 ("0123456789" : Str).length 1).isEmpty)) M)
      rw [e1, if_neg Bool.false_ne_true, e2]
      exact hR
  · conv => whnf
    rw [blsD_rep]
    show Q (.bl ((List.replicate w.length true).all id)) M
    rw [all_rep]
    exact h
theorem okread_integer : ∀ ds M Q X, ds.length = Fread_integer.par.length → Fread_integer.sp ds M Q X → wpSs (tab T3) Bread_integer (dEnds Q X) (dstart Nread_integer ds) M := by
  intro ds M Q X hl h
  obtain ⟨n, rfl, hn, h⟩ := h
  have len := numS_len hn
  have ne := numS_ne n
  have l1 : 1 ≤ (numS n).length := by
    rw [len_tl]
    exact List.length_pos_iff.mpr ne
  have c1 : ¬ decide (L2.cutS (numS n) none (some 1) = ("-" : Str)) = true := by
    rw [decide_eq_true_eq]
    intro z
    have z1 := congrArg tl z
    obtain ⟨c, r, e⟩ : ∃ c r, tl (numS n) = c :: r := by
      cases e : tl (numS n) with
      | nil => exact absurd e ne
      | cons c r => exact ⟨c, r, rfl⟩
    have z2 : tl (L2.cutS (numS n) none (some 1)) = [c] := by
      show ((tl (numS n)).drop 0).take (min 1 (numS n).length - 0) = [c]
      rw [show min 1 (numS n).length - 0 = 1 by omega, e]
      rfl
    rw [z2] at z1
    have z3 : c = 45 := by
      have : ([c] : List Nat) = [45] := z1
      simpa using this
    have := numS_dig (n := n) (c := c) (by rw [e]; exact List.mem_cons_self)
    omega
  have c2 : ¬ decide (numS n = ("" : Str)) = true := by
    rw [decide_eq_true_eq]
    intro z
    exact ne (congrArg tl z)
  refine ⟨by omega, ?_⟩
  refine iteF (c := decide (L2.cutS (numS n) none (some 1) = ("-" : Str)) = true) c1 ?_
  refine iteF (c := decide (numS n = ("" : Str)) = true) c2 ?_
  refine ⟨by omega, ?_⟩
  refine iteF (c := decide ((9 : Int) < ((numS n).length : Int)) = true) (by rw [decide_eq_true_eq]; omega) ?_
  refine comp_signs (fun c => isF c) (numS n) (by omega) (fun c hc => by
    have := numS_dig hc
    unfold isF
    exact decide_eq_true this) (fun c => ⟨_, rfl, fun R X hR => ?_⟩) ?_
  · show R (.bl (!(Builtin.Str.occurrences ("0123456789" : Str) ⟨#[c]⟩ 0 ("0123456789" : Str).length 1).isEmpty)) M
    rw [in_figures]
    exact hR
  · conv => whnf
    rw [blsD_rep]
    refine iteF (c := (!((List.replicate (numS n).length true).all id)) = true) (by rw [all_rep]; decide) ?_
    conv => whnf
    rw [numS_int hn]
    refine ⟨by omega, ?_, ?_⟩
    · have : ((n : Nat) : Int).natAbs.log2 < 100 := log2_lt (k := 100) (Nat.lt_of_lt_of_le (show ((n : Nat) : Int).natAbs < 10 ^ 9 by omega) (by decide)) (by decide)
      omega
    · refine iteT (c := decide ((Str.ofString (toString ((n : Nat) : Int)) : Str) = numS n) = true) (decide_eq_true rfl) ?_
      exact h
theorem okis_time : ∀ ds M Q X, ds.length = Fis_time.par.length → Fis_time.sp ds M Q X → wpSs (tab T5) Bis_time (dEnds Q X) (dstart Nis_time ds) M := by
  intro ds M Q X hl h
  obtain ⟨i, rfl, h0, h1, h⟩ := h
  refine ⟨mul_l (by decide) (by decide), rfl, .int i, 0, 210379679, rfl, ?_⟩
  show Q (.bl (decide (0 ≤ i ∧ i ≤ 210379679))) M
  rw [decide_eq_true ⟨h0, h1⟩]
  exact h
theorem okcheck_time : ∀ ds M Q X, ds.length = Fcheck_time.par.length → Fcheck_time.sp ds M Q X → wpSs (tab T6) Bcheck_time (dEnds Q X) (dstart Ncheck_time ds) M := by
  intro ds M Q X hl h
  obtain ⟨i, rfl, h0, h1, h⟩ := h
  exact ⟨rfl, i, rfl, h0, h1, h⟩
def lcB : Ss := .cons (.asg (.tp (.cons (.nm 0) (.cons (.nm 1) .nil))) (.ife (.cmp .gt (.var 0) (.int 0)) (.tup (.cons (.bin .mod (.var 1) (.var 0)) (.cons (.var 0) .nil))) (.tup (.cons (.var 0) (.cons (.var 1) .nil))))) .nil
theorem lc_loop {E : DE} {M : Mem} {g : Nat} (hE : ∀ t, E.nx [some (.int 0), some (.int g), t] M) : ∀ (xs : List D) (one other : Int) (t : Option D), 0 ≤ one → one < other → Int.gcd one other = g → one * other < 2 ^ xs.length →
    forD (bindT (.nm 2)) (wpSs (tab T48) lcB) (fun _ => True) E xs [some (.int one), some (.int other), t] M
  | [], one, other, t, h0, h1, hg, hp => by
    have z : one = 0 := by
      rcases Int.lt_or_eq_of_le h0 with w | w
      · have : 1 * 1 ≤ one * other := Int.mul_le_mul (by omega) (by omega) (by decide) h0
        simp at hp
        omega
      · exact w.symm
    subst z
    have eg : other = (g : Int) := by rw [← hg, Int.gcd_zero_left]; omega
    rw [eg]
    exact ⟨trivial, hE t⟩
  | d :: xs, one, other, t, h0, h1, hg, hp => by
    rcases Int.lt_or_eq_of_le h0 with w | w
    · have r0 := Int.emod_nonneg other (show one ≠ 0 by omega)
      have r1 := Int.emod_lt_of_pos other w
      have r2 := Int.emod_add_mul_ediv other one
      have q1 : 1 ≤ other / one := by
        rcases Int.lt_or_le 0 (other / one) with q | q
        · omega
        · have : one * (other / one) ≤ 0 := Int.mul_nonpos_of_nonneg_of_nonpos h0 q
          omega
      have q2 : one * 1 ≤ one * (other / one) := Int.mul_le_mul_of_nonneg_left q1 h0
      have half : 2 * (other % one) ≤ other := by omega
      have hp2 : (other % one) * one < 2 ^ xs.length := by
        have e1 : 2 * (other % one * one) ≤ one * other := by
          have := Int.mul_le_mul_of_nonneg_left half h0
          have e2 : one * (2 * (other % one)) = 2 * (other % one * one) := by ac_rfl
          omega
        rw [List.length_cons, Int.pow_succ] at hp
        omega
      have next := lc_loop (E := E) (M := M) hE xs (other % one) one (some d) r0 r1 (by rw [Int.gcd_comm, gcd_turn (by omega) w, Int.gcd_comm]; exact hg) hp2
      refine ⟨trivial, ?_⟩
      refine iteT (c := decide (0 < one) = true) (by simpa using w) ?_
      exact ⟨w, (by decide : (2 : Nat) ≤ 16777216), next⟩
    · subst w
      have next := lc_loop (E := E) (M := M) hE xs 0 other (some d) h0 h1 hg (by rw [Int.zero_mul]; exact Int.pow_pos (by decide))
      exact ⟨trivial, (by decide : (2 : Nat) ≤ 16777216), next⟩
theorem ok_law_common : ∀ ds M Q X, ds.length = F_law_common.par.length → F_law_common.sp ds M Q X → wpSs (tab T48) B_law_common (dEnds Q X) (dstart N_law_common ds) M := by
  intro ds M Q X hl h
  obtain ⟨a, b, rfl, a0, a1, b0, b1, h⟩ := h
  refine ⟨⟨by decide, by decide⟩, ?_⟩
  have r0 := Int.emod_nonneg b (show a ≠ 0 by omega)
  have r1 := Int.emod_lt_of_pos b a0
  have r2 : b % a ≤ b := by
    have z1 := Int.emod_add_mul_ediv b a
    have z2 : 0 ≤ a * (b / a) := Int.mul_nonneg (by omega) (Int.ediv_nonneg (by omega) (by omega))
    omega
  have l0 : (rngL 1 199).length = 199 := rngL_length
  have pr : (b % a) * a ≤ 999999 * big := Int.mul_le_mul (by omega) a1 (by omega) (by decide)
  have next := lc_loop (E := { nx := fun δ M => wpSs (tab T48) (.cons (.ret (.var 1)) .nil) (dEnds Q X) δ M, rt := Q, xc := fun c d _ M' => X c d M' }) (M := M) (g := Int.gcd a b) (fun t => h) (rngL 1 199) (b % a) a (some (.int 0)) r0 r1
    (by rw [Int.gcd_comm, gcd_turn (a := b) (b := a) b0 a0, Int.gcd_comm]) (by rw [l0]; exact Int.lt_of_le_of_lt pr (by decide))
  have e : rngL 0 (200 : Int).toNat = .int 0 :: rngL 1 199 := rngL_succ 0 199
  show forD (bindT (.nm 2)) (wpSs (tab T48) lcB) (fun _ => True) { nx := fun δ M => wpSs (tab T48) (.cons (.ret (.var 1)) .nil) (dEnds Q X) δ M, rt := Q, xc := fun c d _ M' => X c d M' } (rngL 0 (200 : Int).toNat) [some (.int a), some (.int b), none] M
  rw [e]
  refine ⟨trivial, ?_⟩
  refine iteT (c := decide (0 < a) = true) (by simpa using a0) ?_
  exact ⟨a0, (by decide : (2 : Nat) ≤ 16777216), next⟩
end K11
set_option pp.deepTerms false
set_option pp.maxSteps 120
namespace K11
open PySem PySem.Spec AA TL
open L2 (FnScope defScope defBody)
open K10 (gcd_pos' gcd_turn lcm_eq dvd_of_mod pow_small put_math gcd_div_one)
open K25 (Hit FirstK hit_ex hit_no gcd_dvds rest_step)
theorem okread_number : ∀ ds M Q X, ds.length = Fread_number.par.length → Fread_number.sp ds M Q X → wpSs (tab T14) Bread_number (dEnds Q X) (dstart Nread_number ds) M := by
  intro ds M Q X hl h
  obtain ⟨n, lo, hi, rfl, hn, h0, h1, h⟩ := h
  refine ⟨rfl, n, rfl, hn, ?_⟩
  refine iteT (c := decide (lo ≤ (n : Int)) = true) (decide_eq_true h0) ?_
  refine iteT (c := decide ((n : Int) ≤ hi) = true) (decide_eq_true h1) ?_
  exact h
/-! ### Rules -/
theorem okcheck_rules : ∀ ds M Q X, ds.length = Fcheck_rules.par.length → Fcheck_rules.sp ds M Q X → wpSs (tab T15) Bcheck_rules (dEnds Q X) (dstart Ncheck_rules ds) M := by
  intro ds M Q X hl h
  obtain ⟨m, kr, ns, rfl, ⟨t, r, s, u, o, dr⟩, h⟩ := h
  conv => whnf
  rw [o]
  exact ⟨rfl, h⟩
theorem okRules_jobs : ∀ ds M Q X, ds.length = FRules_jobs.par.length → FRules_jobs.sp ds M Q X → wpSs (tab T16) BRules_jobs (dEnds Q X) (dstart NRules_jobs ds) M := by
  intro ds M Q X hl h
  obtain ⟨m, kr, ns, rfl, ⟨t, r, s, u, o, dr⟩, h⟩ := h
  conv => whnf
  rw [o]
  exact ⟨by decide, h⟩
theorem okcheck_job : ∀ ds M Q X, ds.length = Fcheck_job.par.length → Fcheck_job.sp ds M Q X → wpSs (tab T17) Bcheck_job (dEnds Q X) (dstart Ncheck_job ds) M := by
  intro ds M Q X hl h
  obtain ⟨m, kr, ns, j, rfl, ra, hj, h⟩ := h
  have ra0 := ra
  obtain ⟨t, r, s, u, o, dr⟩ := ra
  refine ⟨rfl, m, kr, ns, rfl, ra0, ?_⟩
  conv => whnf
  rw [o]
  refine ⟨rfl, rfl, rfl, m, kr, ns, rfl, ra0, ?_⟩
  conv => whnf
  rw [strsD_map]
  refine iteF (c := (!decide (j ∈ ns)) = true) (by rw [decide_eq_true hj]; decide) ?_
  exact h
theorem okRules_rule_of : ∀ ds M Q X, ds.length = FRules_rule_of.par.length → FRules_rule_of.sp ds M Q X → wpSs (tab T18) BRules_rule_of (dEnds Q X) (dstart NRules_rule_of ds) M := by
  intro ds M Q X hl h
  obtain ⟨m, kr, ns, j, v, rfl, ⟨t, r, s, u, o, dr⟩, hv, h⟩ := h
  conv => whnf
  rw [o]
  refine ⟨by decide, ?_⟩
  conv => whnf
  rw [dr]
  conv => whnf
  rw [hv]
  exact h
theorem okis_each : ∀ ds M Q X, ds.length = Fis_each.par.length → Fis_each.sp ds M Q X → wpSs (tab T23) Bis_each (dEnds Q X) (dstart Nis_each ds) M := by
  intro ds M Q X hl h
  obtain ⟨m, kr, ns, j, w, xs, rfl, ra, hv, h⟩ := h
  have ra0 := ra
  obtain ⟨t, r, s, u, o, dr⟩ := ra
  conv => whnf
  rw [o]
  refine ⟨rfl, rfl, rfl, rfl, m, kr, ns, j, _, rfl, ra0, hv, ?_⟩
  conv => whnf
  rw [atI_zero]
  exact h
def invB : Ss := .cons (.asg (.nm 6) (.bin .fdiv (.var 3) (.var 2))) (.cons (.asg (.tp (.cons (.nm 2) (.cons (.nm 3) (.cons (.nm 4) (.cons (.nm 5) .nil))))) (.tup (.cons (.bin .sub (.var 3) (.bin .mul (.var 6) (.var 2))) (.cons (.var 2) (.cons (.bin .sub (.var 5) (.bin .mul (.var 6) (.var 4))) (.cons (.var 4) .nil)))))) .nil)
theorem inv_loop {Γ : Tab} {E : DE} {M : Mem} {a m : Int} (hm : 0 < m) (hm2 : m ≤ 999999) (hE : ∀ o x y z t, (a * y - 1) % m = 0 → E.nx [some (.int a), some (.int m), some (.int o), some (.int x), some (.int y), some (.int z), t] M) :
    ∀ (n : Nat) (one other here there : Int) (t : Option D), 0 < one → one < n → one ≤ m → other ≤ m → 0 < other → Int.gcd one other = 1 → (a * here - one) % m = 0 → (a * there - other) % m = 0 →
    whileN (wpT Γ (.cmp .gt (.var 2) (.int 1))) (wpSs Γ invB) E (n + 1) [some (.int a), some (.int m), some (.int one), some (.int other), some (.int here), some (.int there), t] M
  | 0, one, other, here, there, t, h1, h2, _, _, _, _, _, _ => by omega
  | n + 1, one, other, here, there, t, h1, h2, h3, h4, h5, hg, i1, i2 => by
    by_cases z : 1 < one
    · have r0 := Int.emod_nonneg other (show one ≠ 0 by omega)
      have r1 := Int.emod_lt_of_pos other h1
      have r2 := Int.emod_add_mul_ediv other one
      have hq : 0 ≤ other / one := Int.ediv_nonneg (by omega) (by omega)
      have hq2 : other / one ≤ other := Int.ediv_le_self _ (by omega)
      have e1 : other - other / one * one = other % one := by rw [Int.mul_comm]; omega
      have rp : 0 < other % one := by
        rcases Int.lt_or_eq_of_le r0 with w | w
        · exact w
        · have d : one ∣ other := Int.dvd_of_emod_eq_zero w.symm
          have : Int.gcd one other = one.natAbs := Int.gcd_eq_natAbs_left d
          omega
      have e9 : (a * (there - other / one * here) - other % one) % m = 0 := by
        obtain ⟨u, e5⟩ := Int.dvd_of_emod_eq_zero i1
        obtain ⟨v, e6⟩ := Int.dvd_of_emod_eq_zero i2
        have e7 : a * (there - other / one * here) - other % one = m * (v - other / one * u) := by
          have q1 : a * (other / one * here) = other / one * (a * here) := by ac_rfl
          have q2 : m * (other / one * u) = other / one * (m * u) := by ac_rfl
          have q3 : other / one * (a * here) = other / one * one + other / one * (m * u) := by rw [← Int.mul_add]; congr 1; omega
          rw [Int.mul_sub, Int.mul_sub, q1, q2, q3]
          omega
        rw [e7]
        exact Int.mul_emod_right _ _
      have hg2 : Int.gcd (other % one) one = 1 := by rw [Int.gcd_comm, gcd_turn h5 h1, Int.gcd_comm]; exact hg
      have next := inv_loop (Γ := Γ) (E := E) (M := M) hm hm2 hE n (other % one) one (there - other / one * here) here (some (.int (other / one))) rp (by omega) (by omega) h3 h1 hg2 e9 i1
      rw [← e1] at next
      refine iteT (c := decide (1 < one) = true) (by simpa using z) ?_
      exact ⟨div_ok h1 (by omega), mul_l (by omega) (by omega), mul_l (by omega) (by omega), (by decide : (4 : Nat) ≤ 16777216), next⟩
    · have : one = 1 := by omega
      subst this
      exact hE _ _ _ _ _ i1
theorem okinverse : ∀ ds M Q X, ds.length = Finverse.par.length → Finverse.sp ds M Q X → wpSs (tab T26) Binverse (dEnds Q X) (dstart Ninverse ds) M := by
  intro ds M Q X hl h
  obtain ⟨a, m, rfl, ha, hm, hm2, hg, h⟩ := h
  have fin : ∀ y : Int, (a * y - 1) % m = 0 → Q (.int (y % m)) M := fun y hy => h _ (Int.emod_nonneg _ (by omega)) (Int.emod_lt_of_pos _ hm) (by
    obtain ⟨u, e⟩ := Int.dvd_of_emod_eq_zero hy
    have e2 := Int.emod_add_mul_ediv y m
    have e3 : a * (y % m) - 1 = m * (u - a * (y / m)) := by
      have q : y % m = y - m * (y / m) := by omega
      have q2 : a * (m * (y / m)) = m * (a * (y / m)) := by ac_rfl
      rw [q, Int.mul_sub, Int.mul_sub, q2]; omega
    rw [e3]; exact Int.mul_emod_right _ _)
  have r0 := Int.emod_nonneg a (show m ≠ 0 by omega)
  have r1 := Int.emod_lt_of_pos a hm
  refine ⟨hm, (by decide : (4 : Nat) ≤ 16777216), ?_⟩
  by_cases z : a % m = 0
  · -- only where m = 1
    have d : m ∣ a := Int.dvd_of_emod_eq_zero z
    have e : Int.gcd a m = m.natAbs := Int.gcd_eq_natAbs_right d
    have m1 : m = 1 := by omega
    subst m1
    refine ⟨1, ?_⟩
    refine iteF (c := decide ((1 : Int) < a % 1) = true) (by simp) ?_
    exact ⟨by decide, fin 1 (by simp)⟩
  · refine ⟨m.toNat + 1, inv_loop (Γ := tab T26) hm hm2 (fun o x y w t hy => ?_) m.toNat (a % m) m 1 0 _ (by omega) (by omega) (by omega) (by omega) hm ?_ ?_ ?_⟩
    · exact ⟨hm, fin y hy⟩
    · have := gcd_turn ha hm
      rw [Int.gcd_comm, this]; exact hg
    · have e2 := Int.emod_add_mul_ediv a m
      have : a * 1 - a % m = m * (a / m) := by omega
      rw [this]; exact Int.mul_emod_right _ _
    · have : a * 0 - m = m * (-1) := by omega
      rw [this]; exact Int.mul_emod_right _ _
-- left out: there ne_int: theorem ne_int {i j : Int} (h : i ≠ j) : (!PyData.eqv (.int i) (.int j)) = true
-- left out: there ne_int': theorem ne_int' {i j : Int} (h : i = j) : ¬ (!PyData.eqv (.int i) (.int j)) = tr
theorem okput_together : ∀ ds M Q X, ds.length = Fput_together.par.length → Fput_together.sp ds M Q X → wpSs (tab T27) Bput_together (dEnds Q X) (dstart Nput_together ds) M := by
  intro ds M Q X hl h
  obtain ⟨n, r, m, s, rfl, n1, n2, r1, r2, m1, m2, s1, s2, hno, hyes⟩ := h
  have g0 := gcd_pos' (m := m) n1
  have gm : (Int.gcd n m : Int) ≤ m := Int.le_of_dvd (by omega) (Int.gcd_dvd_right (a := n) (b := m))
  have gn : (Int.gcd n m : Int) ≤ n := Int.le_of_dvd (by omega) (Int.gcd_dvd_left (a := n) (b := m))
  have hg1 := gcd_div_one (m := m) n1
  have dk : DivOk (Int.gcd n m : Int) := div_ok g0 (by omega)
  refine ⟨rfl, n, m, rfl, by omega, by omega, ?_⟩
  refine ⟨g0, shaped_int _, shaped_int _, ?_⟩
  by_cases z : (s - r) % (Int.gcd n m : Int) = 0
  · refine iteF (c := (!PyData.eqv (.int ((s - r) % (Int.gcd n m : Int))) (.int 0)) = true) (ne_int' z) ?_
    have w0 : 0 < m / (Int.gcd n m : Int) := Int.ediv_pos_of_pos_of_dvd (by omega) (by omega) (Int.gcd_dvd_right (a := n) (b := m))
    have w1 : m / (Int.gcd n m : Int) ≤ m := Int.ediv_le_self _ (by omega)
    have v0 : 0 < n / (Int.gcd n m : Int) := Int.ediv_pos_of_pos_of_dvd (by omega) (by omega) (Int.gcd_dvd_left (a := n) (b := m))
    refine ⟨dk, dk, dk, rfl, n / (Int.gcd n m : Int), m / (Int.gcd n m : Int), rfl, v0, w0, by omega, hg1, fun i i0 i1 hi => ?_⟩
    obtain ⟨p1, p2, p3, p4, p5⟩ := put_math n1 m1 z hi
    have k0 := Int.emod_nonneg ((s - r) / (Int.gcd n m : Int) * i) (show m / (Int.gcd n m : Int) ≠ 0 by omega)
    have k1 := Int.emod_lt_of_pos ((s - r) / (Int.gcd n m : Int) * i) w0
    have wp : 0 < n * (m / (Int.gcd n m : Int)) := Int.mul_pos (by omega) w0
    have fin := hyes z _ p2 (by rw [← p1]; exact p3) p4 p5
    rw [← p1] at fin
    exact ⟨mul_r (by omega) (by omega), w0, mul_r (by omega) (by omega), mul_r (by omega) (by omega), wp, (by decide : (2 : Nat) ≤ 16777216), fin⟩
  · refine iteT (c := (!PyData.eqv (.int ((s - r) % (Int.gcd n m : Int))) (.int 0)) = true) (ne_int z) ?_
    exact hno z
end K11
set_option pp.deepTerms false
set_option pp.maxSteps 120
namespace K11
open PySem PySem.Spec AA TL
open L2 (FnScope defScope defBody)
open K10 (gcd_pos' gcd_turn lcm_eq dvd_of_mod pow_small put_math gcd_div_one)
open K25 (Hit FirstK hit_ex hit_no gcd_dvds rest_step)
theorem Rd.lt {M : Mem} {n r s u : Nat} {kr ks ku : List (L2.Key × D)} (h : Rd M n r s u kr ks ku) : n < M.length ∧ r < M.length ∧ s < M.length ∧ u < M.length :=
  ⟨(List.getElem?_eq_some_iff.mp h.o).1, (List.getElem?_eq_some_iff.mp h.dr).1, (List.getElem?_eq_some_iff.mp h.ds).1, (List.getElem?_eq_some_iff.mp h.du).1⟩
theorem dif_of {M : Mem} {a b : Nat} {x y : MO} (h1 : M[a]? = some x) (h2 : M[b]? = some y) (h : x ≠ y) : a ≠ b := fun z => by
  subst z
  rw [h1] at h2
  cases h2
  exact h rfl
theorem Rd.nr {M : Mem} {n r s u : Nat} {kr ks ku : List (L2.Key × D)} (h : Rd M n r s u kr ks ku) : n ≠ r ∧ n ≠ s ∧ n ≠ u :=
  ⟨dif_of h.o h.dr (fun z => by cases z), dif_of h.o h.ds (fun z => by cases z), dif_of h.o h.du (fun z => by cases z)⟩
/-- a reader among more -/
theorem Rd.more {M M' : Mem} {n r s u : Nat} {kr ks ku : List (L2.Key × D)} (h : Rd M n r s u kr ks ku) (S : Stays [] M M') : Rd M' n r s u kr ks ku :=
  ⟨S.get0 h.o, S.get0 h.dr, S.get0 h.ds, S.get0 h.du, h.rs, h.ru, h.su⟩
theorem Rd.setR {M : Mem} {n r s u : Nat} {kr ks ku : List (L2.Key × D)} (h : Rd M n r s u kr ks ku) (k : List (L2.Key × D)) : Rd (M.set r (.dct k)) n r s u k ks ku :=
  ⟨(List.getElem?_set_ne h.nr.1.symm).trans h.o, set_get h.dr, (List.getElem?_set_ne h.rs).trans h.ds, (List.getElem?_set_ne h.ru).trans h.du, h.rs, h.ru, h.su⟩
theorem Rd.setS {M : Mem} {n r s u : Nat} {kr ks ku : List (L2.Key × D)} (h : Rd M n r s u kr ks ku) (k : List (L2.Key × D)) : Rd (M.set s (.dct k)) n r s u kr k ku :=
  ⟨(List.getElem?_set_ne h.nr.2.1.symm).trans h.o, (List.getElem?_set_ne h.rs.symm).trans h.dr, set_get h.ds, (List.getElem?_set_ne h.su).trans h.du, h.rs, h.ru, h.su⟩
theorem okRuleReader___init__ : ∀ ds M Q X, ds.length = FRuleReader___init__.par.length → FRuleReader___init__.sp ds M Q X → wpSs (tab T51) BRuleReader___init__ (dEnds Q X) (dstart NRuleReader___init__ ds) M := by
  intro ds M Q X hl h
  obtain ⟨n, rfl, hn, h⟩ := h
  have nl := (List.getElem?_eq_some_iff.mp hn).1
  have e1 : (M ++ [MO.dct []])[n]? = some (.ins 1000 []) := by rw [List.getElem?_append_left nl]; exact hn
  have l1 : ((M ++ [MO.dct []]).set n (.ins 1000 [("own_rules", .ref M.length)])).length = M.length + 1 := by simp
  obtain ⟨M1, E1⟩ : ∃ M1, M1 = (M ++ [MO.dct []]).set n (.ins 1000 [("own_rules", .ref M.length)]) := ⟨_, rfl⟩
  rw [← E1] at l1
  have i1 : M1[n]? = some (.ins 1000 [("own_rules", .ref M.length)]) := by rw [E1]; exact set_get e1
  have e2 : (M1 ++ [MO.dct []])[n]? = some (.ins 1000 [("own_rules", .ref M.length)]) := by rw [List.getElem?_append_left (by omega)]; exact i1
  obtain ⟨M2, E2⟩ : ∃ M2, M2 = (M1 ++ [MO.dct []]).set n (.ins 1000 [("own_rules", .ref M.length), ("own_stars", .ref M1.length)]) := ⟨_, rfl⟩
  have l2 : M2.length = M.length + 2 := by rw [E2, List.length_set, List.length_append, l1]; rfl
  have i2 : M2[n]? = some (.ins 1000 [("own_rules", .ref M.length), ("own_stars", .ref M1.length)]) := by rw [E2]; exact set_get e2
  have e3 : (M2 ++ [MO.dct []])[n]? = some (.ins 1000 [("own_rules", .ref M.length), ("own_stars", .ref M1.length)]) := by rw [List.getElem?_append_left (by omega)]; exact i2
  obtain ⟨M3, E3⟩ : ∃ M3, M3 = (M2 ++ [MO.dct []]).set n (.ins 1000 [("own_rules", .ref M.length), ("own_stars", .ref M1.length), ("own_takes", .ref M2.length)]) := ⟨_, rfl⟩
  have S1 : Stays [n] M M1 := by rw [E1]; exact ((Stays.refl [n] M).app _).set (.inl (by simp)) _
  have S2 : Stays [n] M M2 := by rw [E2]; exact (S1.app _).set (.inl (by simp)) _
  have S3 : Stays [n] M M3 := by rw [E3]; exact (S2.app _).set (.inl (by simp)) _
  have d1 : M1[M.length]? = some (.dct []) := by rw [E1, List.getElem?_set_ne (by omega)]; exact last_get M _
  have d2 : M2[M.length]? = some (.dct []) := by rw [E2, List.getElem?_set_ne (by omega), List.getElem?_append_left (by omega)]; exact d1
  have d3 : M3[M.length]? = some (.dct []) := by rw [E3, List.getElem?_set_ne (by omega), List.getElem?_append_left (by omega)]; exact d2
  have f2 : M2[M1.length]? = some (.dct []) := by rw [E2, List.getElem?_set_ne (by omega)]; exact last_get M1 _
  have f3 : M3[M1.length]? = some (.dct []) := by rw [E3, List.getElem?_set_ne (by omega), List.getElem?_append_left (by omega)]; exact f2
  have g3 : M3[M2.length]? = some (.dct []) := by rw [E3, List.getElem?_set_ne (by omega)]; exact last_get M2 _
  have t3 : wpSs (tab T51) .nil (dEnds Q X) [some (.ref n)] M3 := by
    refine h M3 S3 ?_
    rw [l1] at f3
    rw [l2] at g3
    refine ⟨by rw [E3, l1, l2]; exact set_get e3, d3, f3, g3, by omega, by omega, by omega⟩
  have t2 : wpSs (tab T51) (restS (restS BRuleReader___init__)) (dEnds Q X) [some (.ref n)] M2 := by
    conv => whnf
    rw [e3]
    refine ⟨by decide, (by decide : (2 : Nat) < 1000), ?_⟩
    rw [E3] at t3
    exact t3
  have t1 : wpSs (tab T51) (restS BRuleReader___init__) (dEnds Q X) [some (.ref n)] M1 := by
    conv => whnf
    rw [e2]
    refine ⟨by decide, (by decide : (1 : Nat) < 1000), ?_⟩
    rw [E2] at t2
    exact t2
  conv => whnf
  rw [e1]
  refine ⟨by decide, (by decide : (0 : Nat) < 1000), ?_⟩
  rw [E1] at t1
  exact t1
theorem okRuleReader_found : ∀ ds M Q X, ds.length = FRuleReader_found.par.length → FRuleReader_found.sp ds M Q X → wpSs (tab T52) BRuleReader_found (dEnds Q X) (dstart NRuleReader_found ds) M := by
  intro ds M Q X hl h
  obtain ⟨n, r, s, u, kr, ks, ku, rfl, rd, h⟩ := h
  conv => whnf
  rw [rd.o]
  refine ⟨by decide, ?_⟩
  conv => whnf
  rw [rd.o]
  refine ⟨by decide, ?_⟩
  conv => whnf
  rw [rd.o]
  exact ⟨by decide, (by decide : (3 : Nat) ≤ 16777216), h⟩
theorem okRuleReader_takes_long : ∀ ds M Q X, ds.length = FRuleReader_takes_long.par.length → FRuleReader_takes_long.sp ds M Q X → wpSs (tab T53) BRuleReader_takes_long (dEnds Q X) (dstart NRuleReader_takes_long ds) M := fun _ _ _ _ _ h => h.elim
theorem okRuleReader_takes_each : ∀ ds M Q X, ds.length = FRuleReader_takes_each.par.length → FRuleReader_takes_each.sp ds M Q X → wpSs (tab T54) BRuleReader_takes_each (dEnds Q X) (dstart NRuleReader_takes_each ds) M := by
  intro ds M Q X hl h
  obtain ⟨n, r, s, u, kr, ks, ku, w, N, t, rfl, rd, kl, ⟨hw, n1, n2, t2⟩, h⟩ := h
  refine ⟨shaped_int _, shaped_int _, ?_⟩
  refine ⟨rfl, N, 1, 999999, rfl, by omega, by omega, by omega, rfl, t, 0, 210379679, rfl, by omega, by omega, by omega, ?_⟩
  refine ⟨(by decide : (3 : Nat) ≤ 16777216), ?_⟩
  conv => whnf
  rw [rd.o]
  refine ⟨by decide, ?_⟩
  conv => whnf
  rw [rd.dr]
  exact ⟨by omega, h⟩
theorem okRuleReader_takes_fields : ∀ ds M Q X, ds.length = FRuleReader_takes_fields.par.length → FRuleReader_takes_fields.sp ds M Q X → wpSs (tab T55) BRuleReader_takes_fields (dEnds Q X) (dstart NRuleReader_takes_fields ds) M := fun _ _ _ _ _ h => h.elim
/-! ### a line -/
theorem free_words {l : Line} (h : l.ok) : l.words ≠ [] ∧ (∀ w ∈ l.words, 32 ∉ tl w) ∧ (∀ w ∈ l.words, 10 ∉ tl w) ∧ (∀ w ∈ l.words, w.length ≤ 9) ∧ l.words.length ≤ 8 := by
  have c : ∀ x ∈ (["job", "each", "from", "at", "*"] : List Str), 32 ∉ tl x ∧ 10 ∉ tl x ∧ x.length ≤ 9 := by decide +kernel
  have nm : ∀ {w : Str}, NameOk w → 32 ∉ tl w ∧ 10 ∉ tl w ∧ w.length ≤ 9 := fun {w} q => ⟨q.free (by omega), q.free (by omega), by have := q.len; omega⟩
  have nu : ∀ {n : Nat}, n < 10 ^ 9 → 32 ∉ tl (numS n) ∧ 10 ∉ tl (numS n) ∧ (numS n).length ≤ 9 := fun {n} q => ⟨numS_free (by omega), numS_free (by omega), numS_len q⟩
  have all : ∀ w ∈ l.words, 32 ∉ tl w ∧ 10 ∉ tl w ∧ w.length ≤ 9 := by
    cases l with
    | each w n t =>
      obtain ⟨hw, n1, n2, t2⟩ := h
      intro x hx
      have : x = "job" ∨ x = w ∨ x = "each" ∨ x = numS n ∨ x = "from" ∨ x = numS t := by simpa [Line.words] using hx
      rcases this with rfl | rfl | rfl | rfl | rfl | rfl
      · exact c _ (by simp)
      · exact nm hw
      · exact c _ (by simp)
      · exact nu (by omega)
      · exact c _ (by simp)
      · exact nu (by omega)
    | fld w m o => exact h.elim
  refine ⟨by cases l <;> first | exact h.elim | simp [Line.words], fun w hw => (all w hw).1, fun w hw => (all w hw).2.1, fun w hw => (all w hw).2.2, by cases l <;> first | exact h.elim | simp [Line.words]⟩
theorem split_words {l : Line} (h : l.ok) : Txt.split (lineS l.words) " " = l.words := split_line (free_words h).1 (free_words h).2.1
theorem line_short {l : Line} (h : l.ok) : (lineS l.words).length ≤ 80 := by
  have a := line_len (ws := l.words) (k := 9) (free_words h).2.2.2.1
  have b := (free_words h).2.2.2.2
  omega
theorem okRuleReader_takes : ∀ ds M Q X, ds.length = FRuleReader_takes.par.length → FRuleReader_takes.sp ds M Q X → wpSs (tab T56) BRuleReader_takes (dEnds Q X) (dstart NRuleReader_takes ds) M := by
  intro ds M Q X hl h
  obtain ⟨n, r, s, u, kr, ks, l, rfl, rd, kl, kl2, ok, new, h⟩ := h
  have short := line_short ok
  have sw := split_words ok
  refine ⟨rfl, by omega, ?_⟩
  obtain ⟨M1, E1⟩ : ∃ M1, M1 = M ++ [MO.lst (l.words.map D.str)] := ⟨_, rfl⟩
  have S1 : Stays [] M M1 := by rw [E1]; exact (Stays.refl [] M).app _
  have rd1 := rd.more S1
  have q1 : M1[M.length]? = some (.lst (l.words.map D.str)) := by rw [E1]; exact last_get M _
  have tail : wpSs (tab T56) (restS BRuleReader_takes) (dEnds Q X) [some (.ref n), some (.str (lineS l.words)), some (.ref M.length)] M1 := by
    cases l with
    | each w N t =>
      conv => whnf
      rw [seqD_ref q1]
      conv => whnf
      rw [seqD_ref q1]
      conv => whnf
      rw [q1]
      conv => whnf
      rw [rd1.o]
      refine ⟨by decide, ?_⟩
      conv => whnf
      rw [rd1.du]
      conv => whnf
      rw [rd1.o]
      refine ⟨by decide, ?_⟩
      conv => whnf
      rw [rd1.dr]
      refine ⟨shaped_int _, shaped_int _, ?_⟩
      refine iteF (c := (PyData.eqv (.int (kr.length : Int)) (.int 12)) = true) (by rw [eqv_int, decide_eq_true_eq]; omega) ?_
      conv => whnf
      rw [seqD_ref q1]
      refine ⟨rfl, w, rfl, ok.1, ?_⟩
      conv => whnf
      rw [seqD_ref q1]
      conv => whnf
      rw [rd1.o]
      refine ⟨by decide, ?_⟩
      conv => whnf
      rw [rd1.dr]
      refine iteF (c := (valD kr (.inr w)).isSome = true) (by rw [show valD kr (.inr w) = none from new]; decide) ?_
      conv => whnf
      rw [seqD_ref q1]
      conv => whnf
      rw [rd1.o]
      refine ⟨rfl, rfl, rfl, ?_⟩
      conv => whnf
      rw [seqD_ref q1]
      conv => whnf
      rw [q1]
      refine ⟨rfl, n, r, s, u, kr, ks, [], w, N, t, rfl, rd1, by omega, ok, ?_⟩
      exact h _ ((S1.mono fun k _ hk => by cases hk).set (.inl (by simp)) _) (rd1.setR _)
    | fld w m o => exact ok.elim
  rw [← sw] at E1
  rw [E1] at tail
  exact tail
/-! ### Rules made -/
theorem put_new {k : L2.Key} {v : D} : ∀ {kvs : List (L2.Key × D)}, valD kvs k = none → putD kvs k v = kvs ++ [(k, v)] := by
  intro kvs h
  unfold putD
  have : (kvs.any fun kv => decide (kv.1 = k)) = false := by
    unfold valD at h
    rw [Option.map_eq_none_iff, List.find?_eq_none] at h
    rw [List.any_eq_false]
    intro x hx
    exact h x hx
  rw [if_neg (by rw [this]; decide)]
theorem rulesOf_snoc (done : List Line) (l : Line) : rulesOf (done ++ [l]) = rulesOf done ++ [(l.key, l.rule)] := by simp [rulesOf]
theorem val_rules {done : List Line} {l : Line} (h : l.name ∉ done.map Line.name) : valD (rulesOf done) l.key = none := by
  unfold valD
  rw [Option.map_eq_none_iff, List.find?_eq_none]
  intro x hx
  obtain ⟨y, hy, rfl⟩ := List.mem_map.mp hx
  simp only [decide_eq_true_eq]
  intro z
  injection z with z
  exact h (List.mem_map.mpr ⟨y, hy, z⟩)
theorem val_of {ls : List Line} (nd : (ls.map Line.name).Nodup) {l : Line} (hl : l ∈ ls) : valD (rulesOf ls) l.key = some l.rule := by
  induction ls with
  | nil => cases hl
  | cons a r ih =>
    rw [List.map_cons, List.nodup_cons] at nd
    unfold valD rulesOf
    rw [List.map_cons, List.find?_cons]
    rcases List.mem_cons.mp hl with rfl | hl
    · simp
    · have ne : ¬ a.key = l.key := fun z => by
        injection z with z
        exact nd.1 (List.mem_map.mpr ⟨l, hl, z.symm⟩)
      have : decide ((a.key, a.rule).1 = l.key) = false := decide_eq_false ne
      rw [this]
      exact ih nd.2 hl
def rB : Ss := match BRules___init__ with | .cons _ (.cons _ (.cons (.for_ _ _ b) _)) => b | _ => .nil
def enumF (xs : List D) (k : Nat) : List D := (xs.zipIdx k).map fun p => .tup [.int (p.2 : Nat), p.1]
theorem r_loop {E : DE} {m n r s u q : Nat} {text : D} {ls0 : List Line} {M0 : Mem} (l12 : ls0.length ≤ 12) (ok0 : ∀ l ∈ ls0, l.ok) (nd : (ls0.map Line.name).Nodup)
    (hE : ∀ M ks x3 x4, Stays [r, s] M0 M → Rd M n r s u (rulesOf ls0) ks [] → E.nx [some (.ref m), some text, some (.ref n), x3, x4] M) :
    ∀ (rest done : List Line) (M : Mem) (ks : List (L2.Key × D)) (x3 x4 : Option D), ls0 = done ++ rest → Stays [r, s] M0 M → Rd M n r s u (rulesOf done) ks [] → ks.length ≤ done.length → M[q]? = some (.lst ((ls0.map fun l => lineS l.words).map D.str)) →
    forD (bindT (.tp (.cons (.nm 3) (.cons (.nm 4) .nil)))) (wpSs (tab T57) rB) (stayD (.ref q) ((ls0.map fun l => lineS l.words).map D.str)) E (enumF ((rest.map fun l => lineS l.words).map D.str) done.length) [some (.ref m), some text, some (.ref n), x3, x4] M
  | [], done, M, ks, x3, x4, e, S, rd, kl, hq => by
    rw [List.append_nil] at e
    subst e
    exact ⟨seqD_ref hq, hE M ks x3 x4 S rd⟩
  | l :: rest, done, M, ks, x3, x4, e, S, rd, kl, hq => by
    have hl : l ∈ ls0 := by rw [e]; simp
    have dl : done.length + 1 ≤ 12 := by
      rw [e, List.length_append, List.length_cons] at l12
      omega
    have fresh : l.name ∉ done.map Line.name := by
      rw [e, List.map_append, List.map_cons, List.nodup_append] at nd
      intro z
      exact nd.2.2 _ z _ List.mem_cons_self rfl
    have new := val_rules fresh
    have rl : (rulesOf done).length = done.length := by simp [rulesOf]
    refine ⟨seqD_ref hq, ?_⟩
    conv => whnf
    rw [rd.o]
    refine ⟨rfl, rfl, rfl, rfl, n, r, s, u, rulesOf done, ks, l, rfl, rd, by omega, by omega, ok0 l hl, new, fun M1 S1 rd1 => ?_⟩
    have q1 : M1[q]? = some (.lst ((ls0.map fun l => lineS l.words).map D.str)) := S1.get hq (by
      simp only [List.mem_cons, List.not_mem_nil, or_false, not_or]
      exact ⟨dif_of hq rd.dr (fun z => by cases z), dif_of hq rd.ds (fun z => by cases z)⟩)
    rw [put_new new, ← rulesOf_snoc] at rd1
    have kl1 : (l.stars ks).length ≤ (done ++ [l]).length := by
      rw [List.length_append]
      cases l with
      | each w a b => show ks.length ≤ done.length + 1; omega
      | fld w a b =>
        show (putD ks (.inr w) _).length ≤ done.length + 1
        unfold putD
        split
        · rw [List.length_map]; omega
        · rw [List.length_append]; show ks.length + 1 ≤ _; omega
    have next := r_loop (E := E) (text := text) l12 ok0 nd hE rest (done ++ [l]) M1 (l.stars ks) (some (.int (done.length : Nat))) (some (.str (lineS l.words))) (by rw [e, List.append_assoc]; rfl) (S.trans S1) rd1 kl1 q1
    rw [List.length_append] at next
    exact next
end K11
set_option pp.deepTerms false
set_option pp.maxSteps 120
namespace K11
open PySem PySem.Spec AA TL
open L2 (FnScope defScope defBody)
open K10 (gcd_pos' gcd_turn lcm_eq dvd_of_mod pow_small put_math gcd_div_one)
open K25 (Hit FirstK hit_ex hit_no gcd_dvds rest_step)
theorem Stays.low {S T : List Nat} {M0 M M1 : Mem} (g : Stays T M0 M) (h : Stays S M M1) (hs : ∀ k, k < M0.length → k ∈ S → k ∈ T) : Stays T M0 M1 :=
  ⟨Nat.le_trans g.len h.len, fun k hk ht => (h.at_ k (Nat.lt_of_lt_of_le hk g.len) fun z => ht (hs k hk z)).trans (g.at_ k hk ht)⟩
theorem Rd.off {M : Mem} {n r s u : Nat} {kr ks ku : List (L2.Key × D)} (h : Rd M n r s u kr ks ku) {m : Nat} (o : MO) (hm : m ≠ n ∧ m ≠ r ∧ m ≠ s ∧ m ≠ u) : Rd (M.set m o) n r s u kr ks ku :=
  ⟨(List.getElem?_set_ne hm.1).trans h.o, (List.getElem?_set_ne hm.2.1).trans h.dr, (List.getElem?_set_ne hm.2.2.1).trans h.ds, (List.getElem?_set_ne hm.2.2.2).trans h.du, h.rs, h.ru, h.su⟩
theorem split_lines {ls : List Line} (hn : ls ≠ []) (ok : ∀ l ∈ ls, l.ok) : Txt.split (textOf ls) "\n" = ls.map fun l => lineS l.words :=
  split_text (by simpa using hn) fun w hw => by
    obtain ⟨l, hl, rfl⟩ := List.mem_map.mp hw
    exact line_free (free_words (ok l hl)).2.2.1
theorem text_short {ls : List Line} (h12 : ls.length ≤ 12) (ok : ∀ l ∈ ls, l.ok) : (textOf ls).length ≤ 1000 := by
  have := text_len (ws := ls.map fun l => lineS l.words) (k := 80) fun w hw => by
    obtain ⟨l, hl, rfl⟩ := List.mem_map.mp hw
    exact line_short (ok l hl)
  rw [List.length_map] at this
  unfold textOf
  omega
theorem okRules___init__ : ∀ ds M Q X, ds.length = FRules___init__.par.length → FRules___init__.sp ds M Q X → wpSs (tab T57) BRules___init__ (dEnds Q X) (dstart NRules___init__ ds) M := by
  intro ds M Q X hl h
  obtain ⟨m, ls, rfl, hm, lne, l12, ok, nd, h⟩ := h
  have ml := (List.getElem?_eq_some_iff.mp hm).1
  have short := text_short l12 ok
  have sw := split_lines lne ok
  refine ⟨rfl, M.length, rfl, last_get M _, fun M1 S1 rd1 => ⟨rfl, ?_⟩⟩
  have L1 : (M ++ [MO.ins 1000 []]).length = M.length + 1 := by simp
  have A1 : Stays [m] M M1 := Stays.low ((Stays.refl [m] M).app [MO.ins 1000 []]) S1 fun k hk hs => by
    rw [List.mem_singleton] at hs
    omega
  refine ⟨rfl, by omega, ?_⟩
  conv => whnf
  rw [sw, seqD_ref (last_get M1 _)]
  have A2 := A1.app [MO.lst ((ls.map fun l => lineS l.words).map D.str)]
  have m1 : M1[m]? = some (.ins 1001 []) := S1.get (by rw [List.getElem?_append_left ml]; exact hm) (by rw [List.mem_singleton]; omega)
  refine r_loop (m := m) (q := M1.length) (ls0 := ls) (M0 := M1 ++ [MO.lst ((ls.map fun l => lineS l.words).map D.str)]) l12 ok nd (fun M3 ks x3 x4 S3 rd3 => ?_) ls [] _ [] none none rfl (Stays.refl _ _) (rd1.more ((Stays.refl [] M1).app _)) (Nat.le_refl _) (last_get M1 _)
  rw [L1] at S3 rd3
  have A3 : Stays [m] M M3 := Stays.low A2 S3 fun k hk hs => by
    simp only [List.mem_cons, List.not_mem_nil, or_false] at hs
    omega
  have m3 : M3[m]? = some (.ins 1001 []) := S3.get (by rw [List.getElem?_append_left (List.getElem?_eq_some_iff.mp m1).1]; exact m1) (by
    simp only [List.mem_cons, List.not_mem_nil, or_false]
    omega)
  have ne : m ≠ M.length ∧ m ≠ M.length + 1 ∧ m ≠ M.length + 1 + 1 ∧ m ≠ M.length + 1 + 2 := by omega
  obtain ⟨M4, E4⟩ : ∃ M4, M4 = M3.set m (.ins 1001 [("own_text", .str (textOf ls))]) := ⟨_, rfl⟩
  have m4 : M4[m]? = some (.ins 1001 [("own_text", .str (textOf ls))]) := by rw [E4]; exact set_get m3
  have rd4 := rd3.off (.ins 1001 [("own_text", .str (textOf ls))]) ne
  rw [← E4] at rd4
  obtain ⟨M5, E5⟩ : ∃ M5, M5 = M4.set m (.ins 1001 [("own_text", .str (textOf ls)), ("own_rules", .ref (M.length + 1)), ("own_stars", .ref (M.length + 1 + 1)), ("own_takes", .ref (M.length + 1 + 2))]) := ⟨_, rfl⟩
  have m5 : M5[m]? = some (.ins 1001 [("own_text", .str (textOf ls)), ("own_rules", .ref (M.length + 1)), ("own_stars", .ref (M.length + 1 + 1)), ("own_takes", .ref (M.length + 1 + 2))]) := by rw [E5]; exact set_get m4
  have rd5 := rd4.off (.ins 1001 [("own_text", .str (textOf ls)), ("own_rules", .ref (M.length + 1)), ("own_stars", .ref (M.length + 1 + 1)), ("own_takes", .ref (M.length + 1 + 2))]) ne
  rw [← E5] at rd5
  obtain ⟨M6, E6⟩ : ∃ M6, M6 = M5.set m (rulesO (textOf ls) (M.length + 1) (M.length + 1 + 1) (M.length + 1 + 2) (ls.map Line.name)) := ⟨_, rfl⟩
  have m6 : M6[m]? = some (rulesO (textOf ls) (M.length + 1) (M.length + 1 + 1) (M.length + 1 + 2) (ls.map Line.name)) := by rw [E6]; exact set_get m5
  have rd6 := rd5.off (rulesO (textOf ls) (M.length + 1) (M.length + 1 + 1) (M.length + 1 + 2) (ls.map Line.name)) ne
  rw [← E6] at rd6
  have A6 : Stays [m] M M6 := by
    rw [E6, E5, E4]
    exact ((A3.set (.inl (by simp)) _).set (.inl (by simp)) _).set (.inl (by simp)) _
  have t6 : wpSs (tab T57) .nil (dEnds Q X) [some (.ref m), some (.str (textOf ls)), some (.ref M.length), x3, x4] M6 := h M6 A6 ⟨_, _, _, _, m6, rd6.dr⟩
  have t5 : wpSs (tab T57) (restS (restS (restS (restS (restS BRules___init__))))) (dEnds Q X) [some (.ref m), some (.str (textOf ls)), some (.ref M.length), x3, x4] M5 := by
    conv => whnf
    rw [m5]
    refine ⟨by decide, ?_⟩
    conv => whnf
    rw [rd5.dr]
    conv => whnf
    rw [m5]
    refine ⟨by decide, (by decide : (4 : Nat) < 1000), ?_⟩
    rw [E6] at t6
    have en : (rulesOf ls).map (fun kv => keyV kv.1) = (ls.map Line.name).map D.str := by
      unfold rulesOf
      rw [List.map_map, List.map_map]
      rfl
    rw [en]
    exact t6
  have t4 : wpSs (tab T57) (restS (restS (restS (restS BRules___init__)))) (dEnds Q X) [some (.ref m), some (.str (textOf ls)), some (.ref M.length), x3, x4] M4 := by
    conv => whnf
    rw [rd4.o]
    refine ⟨rfl, rfl, rfl, rfl, M.length, _, _, _, _, _, _, rfl, rd4, ?_⟩
    conv => whnf
    rw [m4]
    refine ⟨by decide, (by decide : (1 + 3 : Nat) < 1000), ?_⟩
    rw [E5] at t5
    exact t5
  rw [E4] at t4
  conv => whnf
  rw [m3]
  exact ⟨by decide, (by decide : (0 : Nat) < 1000), t4⟩

theorem Drawn.stays {M M' : Mem} {n : Nat} {c : Int} (D : Drawn M M' n c) : Stays [n] M M' := ⟨by rw [D.len]; exact Nat.le_refl _, fun k _ hk => D.oth k (by simpa using hk)⟩
theorem Pot.keepS {M M' : Mem} {n : Nat} {c : Int} (h : Pot M n c) {S : List Nat} (g : Stays S M M') (hn : n ∉ S) : Pot M' n c := by
  obtain ⟨o, s, t, h1, h2⟩ := h
  exact ⟨o, s, t, g.get h1 hn, h2⟩
theorem Pot.lt {M : Mem} {n : Nat} {c : Int} (h : Pot M n c) : n < M.length := by
  obtain ⟨o, s, t, h1, _⟩ := h
  exact (List.getElem?_eq_some_iff.mp h1).1
theorem perm_erase {A : Type} : ∀ {l : List A} {i : Nat} (h : i < l.length), l.Perm (l[i] :: l.eraseIdx i)
  | a :: l, 0, h => List.Perm.refl _
  | a :: l, i + 1, h => by
    have := perm_erase (l := l) (i := i) (by simpa using h)
    exact (List.Perm.cons a this).trans (List.Perm.swap _ _ _)
theorem map_erase {A B : Type} (f : A → B) : ∀ (l : List A) (i : Nat), (l.map f).eraseIdx i = (l.eraseIdx i).map f
  | [], _ => rfl
  | a :: l, 0 => rfl
  | a :: l, i + 1 => by
    show f a :: (l.map f).eraseIdx i = f a :: (l.eraseIdx i).map f
    rw [map_erase f l i]
def soB : Ss := match B_law_some with | .cons _ (.cons (.for_ _ _ b) _) => b | _ => .nil
theorem so_loop {E : DE} {n a b : Nat} {M0 : Mem} {ss : List Str} {k0 : Nat} {C : Int} {x1 x2 : Option D} (hC : C < 1000000) (hab : a ≠ b) (an : n ≠ a) (bn : n ≠ b) (a0 : M0.length ≤ a) (b0 : M0.length ≤ b)
    (hE : ∀ M (ts : List Str) x5, ts.length = k0 → ts.Nodup → (∀ t ∈ ts, t ∈ ss) → Stays [n] M0 M → Pot M n C → M[b]? = some (.lst (ts.map D.str)) → E.nx [some (.ref n), x1, x2, some (.ref a), some (.ref b), x5] M) :
    ∀ (k : Nat) (lo : Int) (ls ts : List Str) (M : Mem) (c : Int) (x5 : Option D), Stays [n] M0 M → Pot M n c → c + k ≤ C → M[a]? = some (.lst (ls.map D.str)) → M[b]? = some (.lst (ts.map D.str)) → (ts ++ ls).Nodup → (∀ t ∈ ts, t ∈ ss) → (∀ t ∈ ls, t ∈ ss) → ts.length + k = k0 → k ≤ ls.length → ls.length ≤ 1000 → ts.length + ls.length ≤ 1000 →
    forD (bindT (.nm 5)) (wpSs (tab T45) soB) (fun _ => True) E (rngL lo k) [some (.ref n), x1, x2, some (.ref a), some (.ref b), x5] M
  | 0, lo, ls, ts, M, c, x5, S, P, hc, ha, hb, nd, h1, h2, e, _, _, _ => ⟨trivial, hE M ts x5 e (List.Nodup.sublist (List.sublist_append_left ts ls) nd) h1 S (P.le (by omega)) hb⟩
  | k + 1, lo, ls, ts, M, c, x5, S, P, hc, ha, hb, nd, h1, h2, e, kl, l1, l2 => by
    rw [rngL_succ]
    refine ⟨trivial, ?_⟩
    conv => whnf
    rw [hb]
    conv => whnf
    rw [ha]
    conv => whnf
    rw [ha]
    refine ⟨rfl, ?_⟩
    rw [List.length_map]
    refine take_call P (by omega) (by omega) (by omega) fun d M1 d0 d1 D1 => ?_
    have S1 := D1.stays
    have ha1 : M1[a]? = some (.lst (ls.map D.str)) := by rw [D1.oth a (Ne.symm an)]; exact ha
    have hb1 : M1[b]? = some (.lst (ts.map D.str)) := by rw [D1.oth b (Ne.symm bn)]; exact hb
    conv => whnf
    rw [ha1]
    have dl : d.toNat < ls.length := by omega
    refine ⟨d0, by rw [List.length_map]; exact d1, by rw [List.length_map]; omega, fun y hy => ?_⟩
    rw [List.getElem?_map, List.getElem?_eq_getElem dl] at hy
    cases hy
    have hb2 : (M1.set a (.lst ((ls.map D.str).eraseIdx d.toNat)))[b]? = some (.lst (ts.map D.str)) := (List.getElem?_set_ne hab).trans hb1
    conv => whnf
    rw [hb2]
    refine ⟨by rw [List.length_map]; omega, ?_⟩
    have pm : (ts ++ ls).Perm ((ts ++ [ls[d.toNat]]) ++ ls.eraseIdx d.toNat) := by
      rw [List.append_assoc]
      exact List.Perm.append_left ts (perm_erase dl)
    have el : (ls.map D.str).eraseIdx d.toNat = (ls.eraseIdx d.toNat).map D.str := map_erase _ _ _
    have le : (ls.eraseIdx d.toNat).length = ls.length - 1 := List.length_eraseIdx_of_lt dl
    have next := so_loop (E := E) (x1 := x1) (x2 := x2) hC hab an bn a0 b0 hE k (lo + 1) (ls.eraseIdx d.toNat) (ts ++ [ls[d.toNat]]) ((M1.set a (.lst ((ls.map D.str).eraseIdx d.toNat))).set b (.lst (ts.map D.str ++ [.str ls[d.toNat]]))) (c + 1) (some (.int lo))
      (((S.trans S1).set (.inr a0) _).set (.inr b0) _)
      (by
        obtain ⟨o, s, t, q1, q2⟩ := D1.pot
        exact ⟨o, s, t, by rw [List.getElem?_set_ne (Ne.symm bn), List.getElem?_set_ne (Ne.symm an)]; exact q1, q2⟩)
      (by omega) (by rw [List.getElem?_set_ne (Ne.symm hab), ← el]; exact set_get ha1) (by rw [List.map_append]; exact set_get hb2)
      (pm.nodup_iff.mp nd) (fun t ht => by
        rcases List.mem_append.mp ht with z | z
        · exact h1 t z
        · rw [List.mem_singleton.mp z]; exact h2 _ (List.getElem_mem dl)) (fun t ht => h2 t (List.mem_of_mem_eraseIdx ht)) (by rw [List.length_append]; show ts.length + 1 + k = k0; omega) (by omega) (by omega) (by rw [List.length_append]; show ts.length + 1 + _ ≤ 1000; omega)
    exact next
end K11
set_option pp.deepTerms false
set_option pp.maxSteps 120
namespace K11
open PySem PySem.Spec AA TL
open L2 (FnScope defScope defBody)
open K10 (gcd_pos' gcd_turn lcm_eq dvd_of_mod pow_small put_math gcd_div_one)
open K25 (Hit FirstK hit_ex hit_no gcd_dvds rest_step)
theorem div_sym {p q : Int × Int} : (p.2 - q.2) % (Int.gcd p.1 q.1 : Int) = 0 ↔ Div p q := by
  rw [div_comm]
  unfold Div
  rw [Int.gcd_comm]
theorem okall_together : ∀ ds M Q X, ds.length = Fall_together.par.length → Fall_together.sp ds M Q X → wpSs (tab T28) Ball_together (dEnds Q X) (dstart Nall_together ds) M := by
  intro ds M Q X hl h
  obtain ⟨p, q, rfl, hp, hq, h1, h2⟩ := h
  obtain ⟨p1, p2, p3, p4⟩ := id hp
  obtain ⟨q1, q2, q3, q4⟩ := id hq
  have g1 : Int.gcd 1 p.1 = 1 := Int.one_gcd
  have l1 : ((Int.lcm 1 p.1 : Nat) : Int) = p.1 := by
    rw [Int.one_lcm]; omega
  have big1 : (999999999 : Int) ≤ big := by decide
  refine ⟨(by decide : (2 : Nat) ≤ 16777216), ?_⟩
  refine ⟨rfl, rfl, 1, 0, p.1, p.2, rfl, by decide, by decide, by decide, by decide, p1, p2, p3, by omega, fun z => absurd (by rw [g1]; exact Int.emod_one _) z, fun _ x x0 x1 _ hx => ?_⟩
  have xd : ∃ k, x = p.2 + p.1 * k := by
    obtain ⟨k, hk⟩ := dvd_of_mod hx
    exact ⟨k, by omega⟩
  obtain ⟨k, hk⟩ := xd
  have er : (q.2 - x) % (Int.gcd p.1 q.1 : Int) = (q.2 - p.2) % (Int.gcd p.1 q.1 : Int) := by
    obtain ⟨N', hN'⟩ := (gcd_dvds p.1 q.1).1
    have : q.2 - x = (q.2 - p.2) + (Int.gcd p.1 q.1 : Int) * (-(N' * k)) := by
      rw [hk, Int.mul_neg, ← Int.mul_assoc, ← hN']
      omega
    rw [this, Int.add_mul_emod_self_left]
  refine ⟨rfl, rfl, (Int.lcm 1 p.1 : Nat), x, q.1, q.2, rfl, by rw [l1]; exact p1, by rw [l1]; omega, x0, by rw [l1] at x1; omega, q1, q2, q3, by omega, fun z => ?_, fun z y y0 y1 hy1 hy2 => ?_⟩
  · rw [l1, er] at z
    exact ⟨rfl, h1 z⟩
  · rw [l1] at z y1 hy1 ⊢
    rw [er] at z
    refine ⟨rfl, h2 z y ⟨y0, y1, ?_, hy2⟩⟩
    refine Int.emod_eq_zero_of_dvd ?_
    rw [show y - p.2 = (y - x) + p.1 * k by omega]
    exact Int.dvd_add (dvd_of_mod hy1) (Int.dvd_mul_right ..)
theorem okcheck_two : ∀ ds M Q X, ds.length = Fcheck_two.par.length → Fcheck_two.sp ds M Q X → wpSs (tab T29) Bcheck_two (dEnds Q X) (dstart Ncheck_two ds) M := by
  intro ds M Q X hl h
  obtain ⟨m, kr, ns, a, b, p, q, rfl, ra, ⟨ha, hb, _⟩, h⟩ := h
  exact ⟨rfl, m, kr, ns, a, rfl, ra, ha, rfl, m, kr, ns, b, rfl, ra, hb, h⟩
theorem okwhy_apart : ∀ ds M Q X, ds.length = Fwhy_apart.par.length → Fwhy_apart.sp ds M Q X → wpSs (tab T30) Bwhy_apart (dEnds Q X) (dstart Nwhy_apart ds) M := by
  intro ds M Q X hl h
  obtain ⟨m, kr, ns, a, b, p, q, rfl, ra, ⟨ha, hb, va, vb, hp, hq⟩, h⟩ := h
  have ra0 := ra
  obtain ⟨t, r, s, u, o, dr⟩ := ra0
  have p1 := hp.1
  have q1 := hq.1
  refine ⟨(by decide : (2 : Nat) ≤ 16777216), rfl, rfl, m, kr, ns, a, "each", _, rfl, ra, va, ?_⟩
  conv => whnf
  rw [o]
  refine ⟨rfl, rfl, rfl, rfl, m, kr, ns, a, _, rfl, ra, va, (by decide : (0 : Nat) < 16777216), rfl, rfl, m, kr, ns, b, "each", _, rfl, ra, vb, ?_⟩
  conv => whnf
  rw [o]
  refine ⟨rfl, rfl, rfl, rfl, m, kr, ns, b, _, rfl, ra, vb, (by decide : (1 : Nat) < 16777216), rfl, ?_⟩
  refine ⟨shaped_int _, shaped_int _, ?_⟩
  refine ⟨rfl, p.1, q.1, rfl, by omega, by omega, ?_⟩
  refine ⟨gcd_pos' p1, shaped_int _, shaped_int _, ?_⟩
  by_cases z : (p.2 - q.2) % (Int.gcd p.1 q.1 : Int) = 0
  · refine iteT (c := (PyData.eqv (.int ((p.2 - q.2) % (Int.gcd p.1 q.1 : Int))) (.int 0)) = true) (by rw [eqv_int, decide_eq_true_eq]; exact z) ?_
    rw [if_pos (div_sym.mp z)] at h
    exact h
  · refine iteF (c := (PyData.eqv (.int ((p.2 - q.2) % (Int.gcd p.1 q.1 : Int))) (.int 0)) = true) (by rw [eqv_int, decide_eq_true_eq]; exact z) ?_
    rw [if_neg (fun w => z (div_sym.mpr w))] at h
    exact h
/-! ### a Meeting -/
theorem pdM_nil {M : Mem} {f : Nat} (h : M[f]? = some (.lst [])) : pdM M (.ref f) = some (.list []) := by
  simp only [pdM, h]
  rfl
theorem max_if (t B : Int) : (if B > t then B else t) = max t B := by
  split <;> omega
theorem okMeeting_first : ∀ ds M Q X, ds.length = FMeeting_first.par.length → FMeeting_first.sp ds M Q X → wpSs (tab T33) BMeeting_first (dEnds Q X) (dstart NMeeting_first ds) M := by
  intro ds M Q X hl h
  obtain ⟨k, p, q, rest, ev, t, rfl, ⟨m, f, mi, br, o, hf⟩, hp, hq, kn, t0, t1, h1, h2⟩ := h
  conv => whnf
  rw [o]
  refine ⟨by decide, ?_⟩
  have go : ∀ w : Int, w = max t (bg p q) → wpSs (tab T33) (restS BMeeting_first) (dEnds Q X) [some (.ref k), some (.int w), none, none, none, none, none, none, none, none, none, none] M := by
    intro w ew
    subst ew
    conv => whnf
    rw [o]
    refine ⟨by decide, ?_⟩
    rcases kn with ⟨nd, rfl, rfl⟩ | ⟨d, rfl, x, hx, rfl⟩
    · exact h1 nd
    · have l0 := lcm_pos hp hq
      have fb := fm_bo hp hq (w := max t (bg p q)) hx
      have h2' := h2 d x hx
      unfold optT at h2'
      by_cases z : 210379679 < max t (bg p q)
      · refine iteT (c := decide ((210379679 : Int) < max t (bg p q)) = true) (decide_eq_true z) ?_
        rw [if_neg (by omega)] at h2'
        exact h2'
      · refine iteF (c := decide ((210379679 : Int) < max t (bg p q)) = true) (by rw [decide_eq_true_eq]; exact z) ?_
        conv => whnf
        rw [o]
        refine ⟨by decide, (by decide : (0 : Nat) ≤ 16777216), ?_⟩
        conv => whnf
        rw [pdM_nil hf]
        refine ⟨rfl, rfl, ?_⟩
        conv => whnf
        rw [o]
        refine ⟨by decide, ?_⟩
        refine ⟨by omega, ?_⟩
        by_cases y : fm (Int.lcm p.1 q.1 : Int) x (max t (bg p q)) ≤ 210379679
        · rw [if_pos y] at h2'
          refine iteT (c := decide (max t (bg p q) + (x - max t (bg p q)) % (Int.lcm p.1 q.1 : Int) ≤ 210379679) = true) (decide_eq_true y) ?_
          exact h2'
        · rw [if_neg y] at h2'
          refine iteF (c := decide (max t (bg p q) + (x - max t (bg p q)) % (Int.lcm p.1 q.1 : Int) ≤ 210379679) = true) (by rw [decide_eq_true_eq]; exact y) ?_
          exact h2'
  exact go _ (max_if t (bg p q))
end K11
set_option pp.deepTerms false
set_option pp.maxSteps 120
namespace K11
open PySem PySem.Spec AA TL
open L2 (FnScope defScope defBody)
open K10 (gcd_pos' gcd_turn lcm_eq dvd_of_mod pow_small put_math)
open K25 (Hit FirstK hit_ex hit_no gcd_dvds rest_step)
/-! ### minutes by their rests -/
/-- all values are numbered lists, none too long -/
def AllL (M : Mem) (kvs : List (L2.Key × D)) (c : Nat) : Prop := kvs.length ≤ c ∧ ∀ kv ∈ kvs, ∃ j xs, kv.2 = .ref j ∧ M[j]? = some (.lst xs) ∧ xs.length ≤ c
theorem AllL.up {M M' : Mem} {kvs : List (L2.Key × D)} {c c' : Nat} (h : AllL M kvs c) (hc : c ≤ c') (k : ∀ (j : Nat) (xs : List D), M[j]? = some (MO.lst xs) → M'[j]? = some (MO.lst xs)) : AllL M' kvs c' :=
  ⟨by have := h.1; omega, fun kv hk => by
    obtain ⟨j, xs, a, b, d⟩ := h.2 kv hk
    exact ⟨j, xs, a, k j xs b, by omega⟩⟩
theorem put_all {M : Mem} {kvs : List (L2.Key × D)} {c : Nat} (h : AllL M kvs c) {key : L2.Key} {j : Nat} {xs : List D} (hj : M[j]? = some (MO.lst xs)) (hx : xs.length ≤ c + 1) : AllL M (putD kvs key (.ref j)) (c + 1) := by
  have h1 := h.1
  unfold putD
  split
  · refine ⟨by rw [List.length_map]; omega, fun kv hk => ?_⟩
    obtain ⟨kw, hw, e⟩ := List.mem_map.mp hk
    split at e
    · subst e
      exact ⟨j, xs, rfl, hj, hx⟩
    · subst e
      obtain ⟨i, ys, a, b, d⟩ := h.2 kw hw
      exact ⟨i, ys, a, b, by omega⟩
  · refine ⟨by rw [List.length_append]; show kvs.length + 1 ≤ c + 1; omega, fun kv hk => ?_⟩
    rcases List.mem_append.mp hk with z | z
    · obtain ⟨i, ys, a, b, d⟩ := h.2 kv z
      exact ⟨i, ys, a, b, by omega⟩
    · rw [List.mem_singleton.mp z]
      exact ⟨j, xs, rfl, hj, hx⟩
theorem val_mem {kvs : List (L2.Key × D)} {key : L2.Key} {v : D} (h : valD kvs key = some v) : ∃ kv ∈ kvs, kv.2 = v := by
  unfold valD at h
  rw [Option.map_eq_some_iff] at h
  obtain ⟨kv, h1, h2⟩ := h
  exact ⟨kv, List.mem_of_find?_eq_some h1, h2⟩
def brI : Ss := match BMeeting_by_rest with | .cons _ (.cons (.if_ _ a _) _) => a | _ => .nil
def brB : Ss := match brI with | .cons (.for_ _ _ b) _ => b | _ => .nil
theorem br_loop {E : DE} {k mi d : Nat} {M0 : Mem} {fs : List (Str × D)} {L x : Int} (hL : 0 < L) (hk : M0[k]? = some (.ins 1002 fs)) (hfs : lookA fs ("own_rest" : Str) = some (restD L x)) (hmi : M0[mi]? = some (.lst (rngL 0 1440))) (d0 : M0.length ≤ d)
    (hE : ∀ M x2 x3, Stays [] M0 M → E.nx [some (.ref k), some (.ref d), x2, x3] M) : ∀ (n : Nat) (lo : Int) (M : Mem) (kvs : List (L2.Key × D)) (c : Nat) (x2 x3 : Option D), Stays [] M0 M → M[d]? = some (.dct kvs) → AllL M kvs c → c + n ≤ 2000 →
    forD (bindT (.nm 2)) (wpSs (tab T34) brB) (stayD (.ref mi) (rngL 0 1440)) E (rngL lo n) [some (.ref k), some (.ref d), x2, x3] M
  | 0, lo, M, kvs, c, x2, x3, S, hd, al, hc => ⟨seqD_ref (S.get0 hmi), hE M x2 x3 S⟩
  | n + 1, lo, M, kvs, c, x2, x3, S, hd, al, hc => by
    rw [rngL_succ lo n]
    have hk1 := S.get0 hk
    have dl := (List.getElem?_eq_some_iff.mp hd).1
    refine ⟨seqD_ref (S.get0 hmi), ?_⟩
    conv => whnf
    rw [hk1]
    refine ⟨by decide, ?_⟩
    conv => whnf
    rw [hfs]
    refine ⟨hL, ?_⟩
    conv => whnf
    rw [hd]
    refine ⟨(by decide : (0 : Nat) ≤ 16777216), ?_⟩
    have hd1 : (M ++ [MO.lst []])[d]? = some (.dct kvs) := by rw [List.getElem?_append_left dl]; exact hd
    conv => whnf
    rw [hd1]
    refine ⟨(by decide : (1 : Nat) ≤ 16777216), ?_⟩
    obtain ⟨j, xs, ej, hj, hx⟩ : ∃ j xs, (valD kvs (.inl (lo % L))).getD (.ref M.length) = .ref j ∧ (M ++ [MO.lst []] ++ [MO.lst [D.int lo]])[j]? = some (.lst xs) ∧ xs.length ≤ c := by
      cases hv : valD kvs (.inl (lo % L)) with
      | none => exact ⟨M.length, [], rfl, by rw [List.getElem?_append_left (by simp)]; exact last_get M _, by simp⟩
      | some v =>
        obtain ⟨kv, hm, rfl⟩ := val_mem hv
        obtain ⟨j, xs, a, b, e⟩ := al.2 kv hm
        have jl := (List.getElem?_eq_some_iff.mp b).1
        exact ⟨j, xs, a, by rw [List.getElem?_append_left (by simp; omega), List.getElem?_append_left jl]; exact b, e⟩
    rw [ej]
    conv => whnf
    rw [hj]
    conv => whnf
    rw [last_get]
    refine ⟨by show xs.length + 1 ≤ 16777216; omega, ?_⟩
    have hd3 : (M ++ [MO.lst []] ++ [MO.lst [D.int lo]] ++ [MO.lst (xs ++ [D.int lo])])[d]? = some (.dct kvs) := by
      rw [List.getElem?_append_left (by simp; omega), List.getElem?_append_left (by simp; omega)]; exact hd1
    conv => whnf
    rw [hd3]
    refine ⟨by have := al.1; omega, ?_⟩
    have S3 : Stays [] M0 (M ++ [MO.lst []] ++ [MO.lst [D.int lo]] ++ [MO.lst (xs ++ [D.int lo])]) := ((S.app _).app _).app _
    have hl3 : (M ++ [MO.lst []] ++ [MO.lst [D.int lo]] ++ [MO.lst (xs ++ [D.int lo])])[(M ++ [MO.lst []] ++ [MO.lst [D.int lo]]).length]? = some (.lst (xs ++ [D.int lo])) := last_get _ _
    have al3 : AllL (M ++ [MO.lst []] ++ [MO.lst [D.int lo]] ++ [MO.lst (xs ++ [D.int lo])]) kvs c := al.up (Nat.le_refl _) fun i ys hi => by
      have il := (List.getElem?_eq_some_iff.mp hi).1
      rw [List.getElem?_append_left (by simp; omega), List.getElem?_append_left (by simp; omega), List.getElem?_append_left il]; exact hi
    have al4 := put_all (key := .inl (lo % L)) al3 hl3 (by rw [List.length_append]; show xs.length + 1 ≤ c + 1; omega)
    have al5 := al4.up (c' := c + 1) (M' := (M ++ [MO.lst []] ++ [MO.lst [D.int lo]] ++ [MO.lst (xs ++ [D.int lo])]).set d (.dct (putD kvs (.inl (lo % L)) (.ref (M ++ [MO.lst []] ++ [MO.lst [D.int lo]]).length)))) (Nat.le_refl _) fun i ys hi => by
      have ne : d ≠ i := fun z => by rw [← z, hd3] at hi; cases hi
      rw [List.getElem?_set_ne ne]; exact hi
    exact br_loop (E := E) hL hk hfs hmi d0 hE n (lo + 1) _ _ (c + 1) (some (.int lo)) (some (.int (lo % L))) (S3.set (.inr d0) _) (set_get hd3) al5 (by omega)
theorem okMeeting_by_rest : ∀ ds M Q X, ds.length = FMeeting_by_rest.par.length → FMeeting_by_rest.sp ds M Q X → wpSs (tab T34) BMeeting_by_rest (dEnds Q X) (dstart NMeeting_by_rest ds) M := by
  intro ds M Q X hl h
  obtain ⟨k, m, f, mi, rest, B, ev, rfl, hk, hmi, hev, h⟩ := h
  have kl := (List.getElem?_eq_some_iff.mp hk).1
  have ml := (List.getElem?_eq_some_iff.mp hmi).1
  have S1 : Stays [] M (M ++ [MO.dct []]) := (Stays.refl [] M).app _
  conv => whnf
  rw [S1.get0 hk]
  refine ⟨by decide, ?_⟩
  cases ev with
  | false => exact h _ _ S1
  | true =>
    obtain ⟨L, x, rfl, hL⟩ := hev rfl
    conv => whnf
    rw [S1.get0 hk]
    refine ⟨by decide, ?_⟩
    conv => whnf
    rw [seqD_ref (S1.get0 hmi)]
    exact br_loop (M0 := M) hL hk rfl hmi (Nat.le_refl _) (fun M' x2 x3 S => h M' _ S) 1440 0 (M ++ [MO.dct []]) [] 0 none none S1 (last_get M _) ⟨Nat.le_refl _, fun kv hk => by cases hk⟩ (by decide)
end K11
set_option pp.deepTerms false
set_option pp.maxSteps 120
namespace K11
open PySem PySem.Spec AA TL
open L2 (FnScope defScope defBody)
open K10 (gcd_pos' gcd_turn lcm_eq dvd_of_mod pow_small put_math)
open K25 (Hit FirstK hit_ex hit_no gcd_dvds rest_step)
def tailN : Nat → Ss → Ss
  | 0, s => s
  | n + 1, s => tailN n (restS s)
theorem RulesAt.more {M M' : Mem} {m : Nat} {kr : List (L2.Key × D)} {ns : List Str} (h : RulesAt M m kr ns) {S : List Nat} (g : Stays S M M') (hs : ∀ j, j ∈ S → (∀ c fs, M[j]? = some (MO.ins c fs) → c ≠ 1001) ∧ ∀ kvs, M[j]? ≠ some (MO.dct kvs)) : RulesAt M' m kr ns := by
  obtain ⟨t, r, s, u, o, dr⟩ := h
  refine ⟨t, r, s, u, g.get o fun z => ?_, g.get dr fun z => ?_⟩
  · exact (hs m z).1 _ _ o rfl
  · exact (hs r z).2 _ dr
theorem RulesAt.more0 {M M' : Mem} {m : Nat} {kr : List (L2.Key × D)} {ns : List Str} (h : RulesAt M m kr ns) (g : Stays [] M M') : RulesAt M' m kr ns := h.more g fun j hj => by cases hj
theorem rng_data : pds (rngL 0 1440) = some (((List.range 1440).map fun i => (0 : Int) + (i : Nat)).map PyData.int) := by
  rw [rng_ints]
  exact pds_ints _
theorem pdM_lst {M : Mem} {f : Nat} {xs : List D} {ds : List PyData} (h : M[f]? = some (.lst xs)) (e : pds xs = some ds) : pdM M (.ref f) = some (.list ds) := by
  simp only [pdM, h, e]
theorem okMeeting___init__ : ∀ ds M Q X, ds.length = FMeeting___init__.par.length → FMeeting___init__.sp ds M Q X → wpSs (tab T35) BMeeting___init__ (dEnds Q X) (dstart NMeeting___init__ ds) M := by
  intro ds M Q X hl h
  obtain ⟨k, m, kr, ns, a, b, p, q, rfl, hk, ra, ⟨ha, hb, va, vb, hp, hq⟩, h⟩ := h
  have kl := (List.getElem?_eq_some_iff.mp hk).1
  obtain ⟨p1, p2, p3, p4⟩ := id hp
  obtain ⟨q1, q2, q3, q4⟩ := id hq
  have off : ∀ j, j ∈ [k] → (∀ c fs, M[j]? = some (MO.ins c fs) → c ≠ 1001) ∧ ∀ kvs, M[j]? ≠ some (MO.dct kvs) := fun j hj => by
    rw [List.mem_singleton] at hj
    subst hj
    rw [hk]
    exact ⟨fun c fs e => by cases e; decide, fun kvs e => by cases e⟩
  have go : ∀ rest ev, Knows p q rest ev → ∀ M2, Stays [k] M M2 → M2[k]? = some (.ins 1002 [("own_rules", .ref m), ("own_fields", .ref M.length), ("own_rest", rest)]) → M2[M.length]? = some (.lst []) → wpSs (tab T35) (tailN 4 BMeeting___init__) (dEnds Q X) [some (.ref k), some (.ref m), some (.tup [.str a, .str b]), some (.lst [eachD p, eachD q]), none, none, none, none, none] M2 := by
    intro rest ev kn M3 S3 o3 hf3
    have ml3 : M.length < M3.length := (List.getElem?_eq_some_iff.mp hf3).1
    refine ⟨(by decide : (1 : Nat) ≤ 16777216), ?_⟩
    refine ⟨rfl, (by decide : (0 : Nat) < 16777216), rfl, (by decide : (1 : Nat) < 16777216), rfl, ?_⟩
    have g3 : (M3 ++ [MO.lst [D.int 0]] ++ [MO.lst ([] ++ [D.int p.2] ++ [D.int q.2])])[M3.length]? = some (.lst [D.int 0]) := by rw [List.getElem?_append_left (by simp)]; exact last_get M3 _
    conv => whnf
    rw [g3]
    conv => whnf
    rw [last_get]
    refine ⟨(by decide : (1 + 2 : Nat) ≤ 16777216), by simp, fun B hB1 hB2 => ?_⟩
    have eB : B = bg p q := by
      have c1 : B = 0 ∨ B = p.2 ∨ B = q.2 := by simpa using hB1
      have c2 := hB2 p.2 (by simp)
      have c3 := hB2 q.2 (by simp)
      unfold bg
      omega
    subst eB
    have o3' : (M3 ++ [MO.lst [D.int 0]] ++ [MO.lst ([] ++ [D.int p.2] ++ [D.int q.2])])[k]? = some (.ins 1002 [("own_rules", .ref m), ("own_fields", .ref M.length), ("own_rest", rest)]) := by
      rw [List.getElem?_append_left (by simp; omega), List.getElem?_append_left (by omega)]; exact o3
    obtain ⟨M4, E4⟩ : ∃ M4, M4 = (M3 ++ [MO.lst [D.int 0]] ++ [MO.lst ([] ++ [D.int p.2] ++ [D.int q.2])]).set k (.ins 1002 [("own_rules", .ref m), ("own_fields", .ref M.length), ("own_rest", rest), ("own_begin", .int (bg p q))]) := ⟨_, rfl⟩
    have o4 : M4[k]? = some (.ins 1002 [("own_rules", .ref m), ("own_fields", .ref M.length), ("own_rest", rest), ("own_begin", .int (bg p q))]) := by rw [E4]; exact set_get o3'
    have S4 : Stays [k] M M4 := by rw [E4]; exact ((S3.app _).app _).set (.inl (by simp)) _
    have f4 : M4[M.length]? = some (.lst []) := by
      rw [E4, List.getElem?_set_ne (by omega), List.getElem?_append_left (by simp; omega), List.getElem?_append_left (by omega)]; exact hf3
    have ml4 := (List.getElem?_eq_some_iff.mp f4).1
    have o4' : (M4 ++ [MO.lst (rngL 0 1440)])[k]? = some (.ins 1002 [("own_rules", .ref m), ("own_fields", .ref M.length), ("own_rest", rest), ("own_begin", .int (bg p q))]) := by
      rw [List.getElem?_append_left (by omega)]; exact o4
    obtain ⟨M5, E5⟩ : ∃ M5, M5 = (M4 ++ [MO.lst (rngL 0 1440)]).set k (.ins 1002 [("own_rules", .ref m), ("own_fields", .ref M.length), ("own_rest", rest), ("own_begin", .int (bg p q)), ("own_minutes", .ref M4.length)]) := ⟨_, rfl⟩
    have o5 : M5[k]? = some (.ins 1002 [("own_rules", .ref m), ("own_fields", .ref M.length), ("own_rest", rest), ("own_begin", .int (bg p q)), ("own_minutes", .ref M4.length)]) := by rw [E5]; exact set_get o4'
    have S5 : Stays [k] M M5 := by rw [E5]; exact (S4.app _).set (.inl (by simp)) _
    have f5 : M5[M.length]? = some (.lst []) := by rw [E5, List.getElem?_set_ne (by omega), List.getElem?_append_left (by omega)]; exact f4
    have r5 : M5[M4.length]? = some (.lst (rngL 0 1440)) := by rw [E5, List.getElem?_set_ne (by omega)]; exact last_get M4 _
    obtain ⟨M6, E6⟩ : ∃ M6, M6 = M5.set k (.ins 1002 [("own_rules", .ref m), ("own_fields", .ref M.length), ("own_rest", rest), ("own_begin", .int (bg p q)), ("own_minutes", .ref M4.length), ("own_is_ever", .bl ev)]) := ⟨_, rfl⟩
    have o6 : M6[k]? = some (.ins 1002 [("own_rules", .ref m), ("own_fields", .ref M.length), ("own_rest", rest), ("own_begin", .int (bg p q)), ("own_minutes", .ref M4.length), ("own_is_ever", .bl ev)]) := by rw [E6]; exact set_get o5
    have S6 : Stays [k] M M6 := by rw [E6]; exact S5.set (.inl (by simp)) _
    have f6 : M6[M.length]? = some (.lst []) := by rw [E6, List.getElem?_set_ne (by omega)]; exact f5
    have r6 : M6[M4.length]? = some (.lst (rngL 0 1440)) := by rw [E6, List.getElem?_set_ne (by omega)]; exact r5
    have t6 : wpSs (tab T35) (tailN 9 BMeeting___init__) (dEnds Q X) [some (.ref k), some (.ref m), some (.tup [.str a, .str b]), some (.lst [eachD p, eachD q]), none, none, none, none, some (.lst [])] M6 := by
      conv => whnf
      rw [o6]
      refine ⟨rfl, rfl, rfl, rfl, k, m, M.length, M4.length, rest, bg p q, ev, rfl, o6, r6, fun hev => ?_, fun M7 d S7 => ?_⟩
      · rcases kn with ⟨_, _, z⟩ | ⟨_, _, x, _, e⟩
        · rw [z] at hev; cases hev
        · have := lcm_pos hp hq
          exact ⟨_, x, e, by omega⟩
      · have o7 := S7.get0 o6
        have S7' : Stays [k] M M7 := S6.trans (S7.mono fun j _ hj => by cases hj)
        conv => whnf
        rw [o7]
        refine ⟨by decide, (by decide : (6 : Nat) < 1000), ?_⟩
        refine h _ rest ev (S7'.set (.inl (by simp)) _) kn ⟨m, M.length, M4.length, d, set_get o7, ?_⟩
        rw [List.getElem?_set_ne (by omega)]
        exact S7.get0 f6
    have t5 : wpSs (tab T35) (tailN 6 BMeeting___init__) (dEnds Q X) [some (.ref k), some (.ref m), some (.tup [.str a, .str b]), some (.lst [eachD p, eachD q]), none, none, none, none, none] M5 := by
      conv => whnf
      rw [o5]
      refine ⟨by decide, ?_⟩
      conv => whnf
      rw [seqD_ref f5]
      refine ⟨seqD_ref f5, ?_⟩
      conv => whnf
      rw [o5]
      refine ⟨by decide, ?_⟩
      conv => whnf
      rw [seqD_ref f5]
      refine ⟨seqD_ref f5, ?_⟩
      rw [E6] at t6
      conv => whnf
      rw [o5]
      refine ⟨by decide, ?_⟩
      rcases kn with ⟨_, rfl, rfl⟩ | ⟨_, rfl, x, _, rfl⟩
      · conv => whnf
        rw [o5]
        exact ⟨by decide, (by decide : (5 : Nat) < 1000), t6⟩
      · conv => whnf
        rw [o5]
        refine ⟨by decide, (by decide : (0 : Nat) ≤ 16777216), ?_⟩
        conv => whnf
        rw [pdM_lst r5 rng_data]
        refine ⟨shaped_ints _, rfl, ?_⟩
        refine ⟨(by decide : (0 : Nat) ≤ 16777216), rfl, rfl, ?_⟩
        conv => whnf
        rw [o5]
        exact ⟨by decide, (by decide : (5 : Nat) < 1000), t6⟩
    have t4 : wpSs (tab T35) (tailN 5 BMeeting___init__) (dEnds Q X) [some (.ref k), some (.ref m), some (.tup [.str a, .str b]), some (.lst [eachD p, eachD q]), none, none, none, none, none] M4 := by
      refine ⟨⟨by decide, by decide⟩, ⟨by decide, by decide⟩, by decide, ?_⟩
      conv => whnf
      have e0 : ((1440 : Int) - 0).toNat = 1440 := rfl
      rw [e0, o4']
      refine ⟨by decide, (by decide : (4 : Nat) < 1000), ?_⟩
      rw [E5] at t5
      exact t5
    conv => whnf
    rw [o3']
    refine ⟨by decide, (by decide : (3 : Nat) < 1000), ?_⟩
    rw [E4] at t4
    exact t4
  obtain ⟨t, r, s, u, o, dr⟩ := id ra
  refine ⟨rfl, rfl, m, kr, ns, a, "each", _, rfl, ra, va, ?_⟩
  conv => whnf
  rw [o]
  refine ⟨rfl, rfl, rfl, rfl, m, kr, ns, a, _, rfl, ra, va, (by decide : (0 : Nat) < 16777216), rfl, rfl, m, kr, ns, b, "each", _, rfl, ra, vb, ?_⟩
  conv => whnf
  rw [o]
  refine ⟨rfl, rfl, rfl, rfl, m, kr, ns, b, _, rfl, ra, vb, (by decide : (1 : Nat) < 16777216), rfl, ?_⟩
  obtain ⟨M1, E1⟩ : ∃ M1, M1 = M.set k (.ins 1002 [("own_rules", .ref m)]) := ⟨_, rfl⟩
  have o1 : M1[k]? = some (.ins 1002 [("own_rules", .ref m)]) := by rw [E1]; exact set_get hk
  have S1 : Stays [k] M M1 := by rw [E1]; exact (Stays.refl [k] M).set (.inl (by simp)) _
  have L1 : M1.length = M.length := by rw [E1]; simp
  have ra1 := ra.more S1 off
  have o1' : (M1 ++ [MO.lst []])[k]? = some (.ins 1002 [("own_rules", .ref m)]) := by rw [List.getElem?_append_left (by omega)]; exact o1
  obtain ⟨M2, E2⟩ : ∃ M2, M2 = (M1 ++ [MO.lst []]).set k (.ins 1002 [("own_rules", .ref m), ("own_fields", .ref M1.length)]) := ⟨_, rfl⟩
  have o2 : M2[k]? = some (.ins 1002 [("own_rules", .ref m), ("own_fields", .ref M1.length)]) := by rw [E2]; exact set_get o1'
  have S2 : Stays [k] M M2 := by rw [E2]; exact (S1.app _).set (.inl (by simp)) _
  have f2 : M2[M1.length]? = some (.lst []) := by rw [E2, List.getElem?_set_ne (by omega)]; exact last_get M1 _
  have t2 : wpSs (tab T35) (tailN 3 BMeeting___init__) (dEnds Q X) [some (.ref k), some (.ref m), some (.tup [.str a, .str b]), some (.lst [eachD p, eachD q]), none, none, none, none, none] M2 := by
    have fin : ∀ rest ev, Knows p q rest ev → wpSs (tab T35) (tailN 4 BMeeting___init__) (dEnds Q X) [some (.ref k), some (.ref m), some (.tup [.str a, .str b]), some (.lst [eachD p, eachD q]), none, none, none, none, none] (M2.set k (.ins 1002 [("own_rules", .ref m), ("own_fields", .ref M1.length), ("own_rest", rest)])) := fun rest ev kn => by
      rw [L1] at o2 f2 ⊢
      exact go rest ev kn _ (S2.set (.inl (by simp)) _) (set_get o2) (by rw [List.getElem?_set_ne (by omega)]; exact f2)
    refine ⟨rfl, (by decide : (2 : Nat) ≤ 16777216), (by decide : (0 : Nat) < 16777216), rfl, (by decide : (2 : Nat) ≤ 16777216), (by decide : (1 : Nat) < 16777216), rfl, rfl, p, q, rfl, hp, hq, fun nd => ?_, fun d x hx => ?_⟩
    · conv => whnf
      rw [o2]
      exact ⟨by decide, (by decide : (2 : Nat) < 1000), fin _ _ (.inl ⟨nd, rfl, rfl⟩)⟩
    · conv => whnf
      rw [o2]
      exact ⟨by decide, (by decide : (2 : Nat) < 1000), fin _ _ (.inr ⟨d, rfl, x, hx, rfl⟩)⟩
  have t1 : wpSs (tab T35) (tailN 2 BMeeting___init__) (dEnds Q X) [some (.ref k), some (.ref m), some (.tup [.str a, .str b]), some (.lst [eachD p, eachD q]), none, none, none, none, none] M1 := by
    refine ⟨rfl, rfl, m, kr, ns, a, "each", _, rfl, ra1, va, ?_⟩
    refine ⟨rfl, rfl, m, kr, ns, b, "each", _, rfl, ra1, vb, ?_⟩
    refine ⟨rfl, ?_⟩
    conv => whnf
    rw [o1']
    refine ⟨by decide, (by decide : (1 : Nat) < 1000), ?_⟩
    rw [E2] at t2
    exact t2
  conv => whnf
  rw [hk]
  refine ⟨by decide, (by decide : (0 : Nat) < 1000), ?_⟩
  rw [E1] at t1
  exact t1
end K11
set_option pp.deepTerms false
set_option pp.maxSteps 120
namespace K11
open PySem PySem.Spec AA TL
open L2 (FnScope defScope defBody)
open K10 (gcd_pos' gcd_turn lcm_eq dvd_of_mod pow_small put_math)
open K25 (Hit FirstK hit_ex hit_no gcd_dvds rest_step)
/-- a Meeting made of two jobs -/
theorem new_stays {M M2 : Mem} (S : Stays [M.length] (M ++ [MO.ins 1002 []]) M2) : Stays [] M M2 := Stays.low ((Stays.refl [] M).app _) S fun j hj hs => by
  rw [List.mem_singleton] at hs
  omega
theorem bg_max {p q : Int × Int} (hp : PairOk p) : max 0 (bg p q) = bg p q := by
  have := hp.2.2.1
  unfold bg
  omega
theorem okmeet : ∀ ds M Q X, ds.length = Fmeet.par.length → Fmeet.sp ds M Q X → wpSs (tab T36) Bmeet (dEnds Q X) (dstart Nmeet ds) M := by
  intro ds M Q X hl h
  obtain ⟨m, kr, ns, a, b, p, q, rfl, ra, j2, h1, h2⟩ := h
  obtain ⟨ha, hb, va, vb, hp, hq⟩ := id j2
  refine ⟨rfl, m, kr, ns, a, b, p, q, rfl, ra, j2, (by decide : (2 : Nat) ≤ 16777216), rfl, M.length, m, kr, ns, a, b, p, q, rfl, last_get M _, ra.more0 ((Stays.refl [] M).app _), j2, fun M2 rest ev S kn mt => ⟨rfl, ?_⟩⟩
  have S2 := new_stays S
  have ra2 := ra.more0 S2
  obtain ⟨m', f, mi, br, o, hf⟩ := id mt
  conv => whnf
  rw [o]
  refine ⟨rfl, rfl, rfl, rfl, M.length, p, q, rest, ev, 0, rfl, mt, hp, hq, kn, by decide, by decide, fun nd => ?_, fun d x hx => ?_⟩
  · exact ⟨rfl, m, kr, ns, a, b, p, q, rfl, ra2, j2, (by decide : (2 : Nat) ≤ 16777216), h1 nd M2 S2⟩
  · have hf := fm_isF hp hq hx
    have h2' := h2 d _ M2 hf S2
    rw [bg_max hp]
    unfold optT
    by_cases z : fm (Int.lcm p.1 q.1 : Int) x (bg p q) ≤ 210379679
    · rw [if_pos z] at h2' ⊢
      exact ⟨(by decide : (2 : Nat) ≤ 16777216), h2'⟩
    · rw [if_neg z] at h2' ⊢
      exact ⟨rfl, m, kr, ns, a, b, p, q, rfl, ra2, j2, (by decide : (2 : Nat) ≤ 16777216), h2'⟩
theorem oknext_meet : ∀ ds M Q X, ds.length = Fnext_meet.par.length → Fnext_meet.sp ds M Q X → wpSs (tab T37) Bnext_meet (dEnds Q X) (dstart Nnext_meet ds) M := by
  intro ds M Q X hl h
  obtain ⟨m, kr, ns, a, b, p, q, t, rfl, ra, j2, t0, t1, h1, h2⟩ := h
  obtain ⟨ha, hb, va, vb, hp, hq⟩ := id j2
  refine ⟨rfl, m, kr, ns, a, b, p, q, rfl, ra, j2, rfl, t, rfl, t0, t1, (by decide : (2 : Nat) ≤ 16777216), rfl, M.length, m, kr, ns, a, b, p, q, rfl, last_get M _, ra.more0 ((Stays.refl [] M).app _), j2, fun M2 rest ev S kn mt => ⟨rfl, ?_⟩⟩
  have S2 := new_stays S
  obtain ⟨m', f, mi, br, o, hf⟩ := id mt
  conv => whnf
  rw [o]
  exact ⟨rfl, rfl, rfl, rfl, M.length, p, q, rest, ev, t, rfl, mt, hp, hq, kn, t0, t1, fun nd => h1 nd M2 S2, fun d x hx => h2 d x M2 hx S2⟩
theorem okMeeting_count : ∀ ds M Q X, ds.length = FMeeting_count.par.length → FMeeting_count.sp ds M Q X → wpSs (tab T39) BMeeting_count (dEnds Q X) (dstart NMeeting_count ds) M := by
  intro ds M Q X hl h
  obtain ⟨k, p, q, rest, ev, rfl, mt, hp, hq, kn, h1, h2⟩ := h
  have kn0 := kn
  obtain ⟨m, f, mi, br, o, hf⟩ := id mt
  conv => whnf
  rw [o]
  refine ⟨by decide, ?_⟩
  rcases kn with ⟨nd, rfl, rfl⟩ | ⟨d, rfl, x, hx, rfl⟩
  · exact h1 nd
  · have l0 := lcm_pos hp hq
    have lb := lcm_big hp hq
    have hF := fm_isF hp hq hx
    have h2' := h2 d _ hF
    have dok : DivOk (Int.lcm p.1 q.1 : Int) := ⟨by omega, .inr (by
      have : ((Int.lcm p.1 q.1 : Nat) : Int).natAbs.log2 < 100 := log2_lt (k := 100) (Nat.lt_of_lt_of_le (show ((Int.lcm p.1 q.1 : Nat) : Int).natAbs < 10 ^ 13 by omega) (by decide)) (by decide)
      omega)⟩
    conv => whnf
    rw [o]
    refine ⟨by decide, (by decide : (0 : Nat) ≤ 16777216), ?_⟩
    conv => whnf
    rw [pdM_nil hf]
    refine ⟨rfl, rfl, ?_⟩
    conv => whnf
    rw [o]
    refine ⟨rfl, rfl, rfl, rfl, k, p, q, _, true, 0, rfl, mt, hp, hq, kn0, by decide, by decide, fun nd => absurd d nd, fun _ y hy => ?_⟩
    have ey : y = x := apart_eq l0 hy.1 (by have := hy.2.1; omega) hx.1 (by have := hx.2.1; omega) (bo_dvd hy.2.2 hx.2.2)
    subst ey
    rw [bg_max hp]
    unfold optT
    unfold manyD at h2'
    by_cases z : fm (Int.lcm p.1 q.1 : Int) y (bg p q) ≤ 210379679
    · rw [if_pos z] at h2' ⊢
      conv => whnf
      rw [o]
      refine ⟨by decide, dok, ?_⟩
      exact h2'
    · rw [if_neg z] at h2' ⊢
      exact h2'
theorem okmeetings : ∀ ds M Q X, ds.length = Fmeetings.par.length → Fmeetings.sp ds M Q X → wpSs (tab T40) Bmeetings (dEnds Q X) (dstart Nmeetings ds) M := by
  intro ds M Q X hl h
  obtain ⟨m, kr, ns, a, b, p, q, rfl, ra, j2, h1, h2⟩ := h
  obtain ⟨ha, hb, va, vb, hp, hq⟩ := id j2
  refine ⟨rfl, m, kr, ns, a, b, p, q, rfl, ra, j2, (by decide : (2 : Nat) ≤ 16777216), rfl, M.length, m, kr, ns, a, b, p, q, rfl, last_get M _, ra.more0 ((Stays.refl [] M).app _), j2, fun M2 rest ev S kn mt => ⟨rfl, ?_⟩⟩
  have S2 := new_stays S
  obtain ⟨m', f, mi, br, o, hf⟩ := id mt
  conv => whnf
  rw [o]
  exact ⟨rfl, rfl, rfl, rfl, M.length, p, q, rest, ev, rfl, mt, hp, hq, kn, fun nd => h1 nd M2 S2, fun d f hf => h2 d f M2 hf S2⟩
theorem okis_long_year : ∀ ds M Q X, ds.length = Fis_long_year.par.length → Fis_long_year.sp ds M Q X → wpSs (tab T7) Bis_long_year (dEnds Q X) (dstart Nis_long_year ds) M := fun _ _ _ _ _ h => h.elim
theorem okdays_in : ∀ ds M Q X, ds.length = Fdays_in.par.length → Fdays_in.sp ds M Q X → wpSs (tab T8) Bdays_in (dEnds Q X) (dstart Ndays_in ds) M := fun _ _ _ _ _ h => h.elim
theorem okdays_ahead : ∀ ds M Q X, ds.length = Fdays_ahead.par.length → Fdays_ahead.sp ds M Q X → wpSs (tab T9) Bdays_ahead (dEnds Q X) (dstart Ndays_ahead ds) M := fun _ _ _ _ _ h => h.elim
theorem okdate_by : ∀ ds M Q X, ds.length = Fdate_by.par.length → Fdate_by.sp ds M Q X → wpSs (tab T10) Bdate_by (dEnds Q X) (dstart Ndate_by ds) M := fun _ _ _ _ _ h => h.elim
theorem okweekday_by : ∀ ds M Q X, ds.length = Fweekday_by.par.length → Fweekday_by.sp ds M Q X → wpSs (tab T11) Bweekday_by (dEnds Q X) (dstart Nweekday_by ds) M := fun _ _ _ _ _ h => h.elim
theorem okread_part : ∀ ds M Q X, ds.length = Fread_part.par.length → Fread_part.sp ds M Q X → wpSs (tab T12) Bread_part (dEnds Q X) (dstart Nread_part ds) M := fun _ _ _ _ _ h => h.elim
theorem okread_field : ∀ ds M Q X, ds.length = Fread_field.par.length → Fread_field.sp ds M Q X → wpSs (tab T13) Bread_field (dEnds Q X) (dstart Nread_field ds) M := fun _ _ _ _ _ h => h.elim
theorem okRules_stars_of : ∀ ds M Q X, ds.length = FRules_stars_of.par.length → FRules_stars_of.sp ds M Q X → wpSs (tab T19) BRules_stars_of (dEnds Q X) (dstart NRules_stars_of ds) M := fun _ _ _ _ _ h => h.elim
theorem okfits_in : ∀ ds M Q X, ds.length = Ffits_in.par.length → Ffits_in.sp ds M Q X → wpSs (tab T20) Bfits_in (dEnds Q X) (dstart Nfits_in ds) M := fun _ _ _ _ _ h => h.elim
theorem okby_hours : ∀ ds M Q X, ds.length = Fby_hours.par.length → Fby_hours.sp ds M Q X → wpSs (tab T21) Bby_hours (dEnds Q X) (dstart Nby_hours ds) M := fun _ _ _ _ _ h => h.elim
theorem okminutes_of : ∀ ds M Q X, ds.length = Fminutes_of.par.length → Fminutes_of.sp ds M Q X → wpSs (tab T22) Bminutes_of (dEnds Q X) (dstart Nminutes_of ds) M := fun _ _ _ _ _ h => h.elim
theorem oklengths_of : ∀ ds M Q X, ds.length = Flengths_of.par.length → Flengths_of.sp ds M Q X → wpSs (tab T24) Blengths_of (dEnds Q X) (dstart Nlengths_of ds) M := fun _ _ _ _ _ h => h.elim
theorem oktold_never : ∀ ds M Q X, ds.length = Ftold_never.par.length → Ftold_never.sp ds M Q X → wpSs (tab T25) Btold_never (dEnds Q X) (dstart Ntold_never ds) M := fun _ _ _ _ _ h => h.elim
theorem okMeeting_days_from : ∀ ds M Q X, ds.length = FMeeting_days_from.par.length → FMeeting_days_from.sp ds M Q X → wpSs (tab T31) BMeeting_days_from (dEnds Q X) (dstart NMeeting_days_from ds) M := fun _ _ _ _ _ h => h.elim
theorem okMeeting_minutes_on : ∀ ds M Q X, ds.length = FMeeting_minutes_on.par.length → FMeeting_minutes_on.sp ds M Q X → wpSs (tab T32) BMeeting_minutes_on (dEnds Q X) (dstart NMeeting_minutes_on ds) M := fun _ _ _ _ _ h => h.elim
theorem okMeeting_behind : ∀ ds M Q X, ds.length = FMeeting_behind.par.length → FMeeting_behind.sp ds M Q X → wpSs (tab T38) BMeeting_behind (dEnds Q X) (dstart NMeeting_behind ds) M := fun _ _ _ _ _ h => h.elim
end K11
set_option pp.deepTerms false
set_option pp.maxSteps 120
namespace K11
open PySem PySem.Spec AA TL
open L2 (FnScope defScope defBody)
open K10 (gcd_pos' gcd_turn lcm_eq dvd_of_mod pow_small put_math)
open K25 (Hit FirstK hit_ex hit_no gcd_dvds rest_step)
theorem ok_law_some : ∀ ds M Q X, ds.length = F_law_some.par.length → F_law_some.sp ds M Q X → wpSs (tab T45) B_law_some (dEnds Q X) (dstart N_law_some ds) M := by
  intro ds M Q X hl h
  obtain ⟨n, c, x, ss, k, rfl, hx, hs, P, hc, kl, l1, nd, h⟩ := h
  have nl := P.lt
  conv => whnf
  rw [hs]
  refine ⟨(by decide : (0 : Nat) ≤ 16777216), ⟨by omega, by omega⟩, ?_⟩
  have e1 : (M ++ [MO.lst (ss.map D.str)]).length = M.length + 1 := by simp
  have S2 : Stays [n] M (M ++ [MO.lst (ss.map D.str)] ++ [MO.lst []]) := ((Stays.refl [n] M).app _).app _
  refine so_loop (M0 := M) (ss := ss) (k0 := k) (C := c + k) (a := M.length) (b := (M ++ [MO.lst (ss.map D.str)]).length) (by omega) (by omega) (by omega) (by omega) (by omega) (by omega) (fun M3 ts x5 tl tn tm S3 P3 e3 => ?_) k 0 ss [] _ c none S2 ?_ (by omega) (by rw [List.getElem?_append_left (by omega)]; exact last_get M _) (last_get _ _) (by simpa using nd) (fun t ht => by cases ht) (fun t ht => ht) (by simp) kl l1 (by simp; omega)
  · exact h ts M3 _ tl tn tm S3 P3 (by omega) e3
  · obtain ⟨o, s, t, q1, q2⟩ := P
    exact ⟨o, s, t, by rw [List.getElem?_append_left (by omega), List.getElem?_append_left nl]; exact q1, q2⟩
/-! ### names -/
theorem letter_at {d : Int} (h0 : 0 ≤ d) (h1 : d < 26) : ∃ c, L2.atI ("abcdefghijklmnopqrstuvwxyz" : Str).cps.toList d = some c ∧ isL c = true := by
  have e : ("abcdefghijklmnopqrstuvwxyz" : Str).cps.toList.length = 26 := by decide +kernel
  obtain ⟨c, hc, ha⟩ := atI_mem (l := ("abcdefghijklmnopqrstuvwxyz" : Str).cps.toList) h0 (by rw [e]; exact h1)
  have all : ∀ c ∈ ("abcdefghijklmnopqrstuvwxyz" : Str).cps.toList, isL c = true := by decide +kernel
  exact ⟨c, ha, all c hc⟩
theorem sign_at {d : Int} (h0 : 0 ≤ d) (h1 : d < 36) : ∃ c, L2.atI (("abcdefghijklmnopqrstuvwxyz" : Str) ++ ("0123456789" : Str)).cps.toList d = some c ∧ (isL c || isF c) = true := by
  have e : (("abcdefghijklmnopqrstuvwxyz" : Str) ++ ("0123456789" : Str)).cps.toList.length = 36 := by decide +kernel
  obtain ⟨c, hc, ha⟩ := atI_mem (l := (("abcdefghijklmnopqrstuvwxyz" : Str) ++ ("0123456789" : Str)).cps.toList) h0 (by rw [e]; exact h1)
  have all : ∀ c ∈ (("abcdefghijklmnopqrstuvwxyz" : Str) ++ ("0123456789" : Str)).cps.toList, (isL c || isF c) = true := by decide +kernel
  exact ⟨c, ha, all c hc⟩
def naA : Ss := match B_law_name with | .cons _ (.cons _ (.cons (.for_ _ _ b) _)) => b | _ => .nil
def naB : Ss := match B_law_name with | .cons _ (.cons _ (.cons _ (.cons (.for_ _ _ b) _))) => b | _ => .nil
theorem na_loop {E : DE} {n : Nat} {M0 : Mem} {C : Int} {x1 x6 : Option D} (hC : C < 1000000)
    (hE : ∀ M w x5, NameOk w → Stays [n] M0 M → Pot M n C → E.nx [some (.ref n), x1, some (.str "abcdefghijklmnopqrstuvwxyz"), some (.str "0123456789"), some (.str w), x5, x6] M) :
    ∀ (k : Nat) (lo : Int) (w : Str) (M : Mem) (c : Int) (x5 : Option D), NameOk w → w.length + k ≤ 8 → Stays [n] M0 M → Pot M n c → c + k ≤ C →
    forD (bindT (.nm 5)) (wpSs (tab T46) naA) (fun _ => True) E (rngL lo k) [some (.ref n), x1, some (.str "abcdefghijklmnopqrstuvwxyz"), some (.str "0123456789"), some (.str w), x5, x6] M
  | 0, lo, w, M, c, x5, hw, hl, S, P, hc => ⟨trivial, hE M w x5 hw S (P.le (by omega))⟩
  | k + 1, lo, w, M, c, x5, hw, hl, S, P, hc => by
    rw [rngL_succ]
    refine ⟨trivial, by decide +kernel, rfl, ?_⟩
    refine take_call P (by omega) (by decide) (by decide) fun d M1 d0 d1 D1 => ?_
    obtain ⟨z, hz, hs⟩ := sign_at d0 d1
    refine idxS_of (by decide +kernel) hz ?_
    refine ⟨by show w.length + 1 ≤ 16777216; omega, ?_⟩
    have wl : (w ++ (⟨#[z]⟩ : Str)).length = w.length + 1 := by rw [len_tl, tl_append, List.length_append, ← len_tl]; rfl
    exact na_loop (E := E) (x1 := x1) (x6 := x6) hC hE k (lo + 1) (w ++ ⟨#[z]⟩) M1 (c + 1) (some (.int lo)) (hw.snoc (by omega) hs) (by omega) (S.trans D1.stays) D1.pot (by omega)
def gN (i : Int) : Str := ("g" : Str) ++ Str.ofString (toString i)
theorem g_ok : NameOk (gN 0) ∧ NameOk (gN 1) ∧ gN 0 ≠ gN 1 := by decide +kernel
/-- one look whether it is there -/
theorem na_step {Q : DE} {n f : Nat} {M : Mem} {ss : List Str} {w : Str} {i : Int} {x2 x3 x5 : Option D} (hf : M[f]? = some (.lst (ss.map D.str))) (hi : i = 0 ∨ i = 1) (h : Q.nx [some (.ref n), some (.ref f), x2, x3, some (.str (if w ∈ ss then gN i else w)), x5, some (.int i)] M) :
    wpSs (tab T46) naB Q [some (.ref n), some (.ref f), x2, x3, some (.str w), x5, some (.int i)] M := by
  conv => whnf
  rw [hf]
  conv => whnf
  rw [seqD_ref hf]
  conv => whnf
  rw [strsD_map]
  by_cases z : w ∈ ss
  · rw [if_pos z] at h
    refine iteT (c := decide (w ∈ ss) = true) (decide_eq_true z) ?_
    have lg : i.natAbs.log2 < 1920 := by rcases hi with rfl | rfl <;> decide
    have ln : (gN i).length ≤ 16777216 := by rcases hi with rfl | rfl <;> decide +kernel
    unfold gN at ln
    rw [strLen_append] at ln
    exact ⟨lg, ln, h⟩
  · rw [if_neg z] at h
    refine iteF (c := decide (w ∈ ss) = true) (by rw [decide_eq_true_eq]; exact z) ?_
    exact h
theorem ok_law_name : ∀ ds M Q X, ds.length = F_law_name.par.length → F_law_name.sp ds M Q X → wpSs (tab T46) B_law_name (dEnds Q X) (dstart N_law_name ds) M := by
  intro ds M Q X hl h
  obtain ⟨n, f, c, ss, rfl, nf, hf, sl, P, hc, h⟩ := h
  refine ⟨(by decide : (2 : Nat) ≤ 16777216), rfl, ?_⟩
  refine take_call P (by omega) (by decide) (by decide) fun d M1 d0 d1 D1 => ?_
  obtain ⟨a, ha, hs⟩ := letter_at d0 d1
  refine idxS_of (by decide +kernel) ha ?_
  refine ⟨rfl, ?_⟩
  refine take_call D1.pot (by omega) (by decide) (by decide) fun g M2 g0 g1 D2 => ?_
  refine ⟨⟨by omega, by omega⟩, ?_⟩
  have S2 := D1.stays.trans D2.stays
  refine na_loop (M0 := M2) (n := n) (C := c + 12) (by omega) (fun M3 w x5 hw S3 P3 => ?_) g.toNat 0 (⟨#[a]⟩ : Str) M2 _ none (NameOk.one hs) (by show 1 + g.toNat ≤ 8; omega) (Stays.refl _ _) D2.pot (by omega)
  have S := S2.trans S3
  have f3 : M3[f]? = some (.lst (ss.map D.str)) := S.get hf (by simpa using nf)
  conv => whnf
  rw [f3]
  refine ⟨⟨by rw [List.length_map]; omega, by rw [List.length_map]; omega⟩, ?_⟩
  match ss, sl, f3, h with
  | [], _, f3, h =>
    refine ⟨trivial, na_step (i := 0) f3 (.inl rfl) ⟨trivial, ?_⟩⟩
    exact h w M3 hw (by simp) S P3
  | [y], _, f3, h =>
    refine ⟨trivial, na_step (i := 0) f3 (.inl rfl) ⟨trivial, na_step (i := 1) f3 (.inr rfl) ⟨trivial, ?_⟩⟩⟩
    obtain ⟨k0, k1, k2⟩ := g_ok
    have key : NameOk (if (if w ∈ [y] then gN 0 else w) ∈ [y] then gN 1 else (if w ∈ [y] then gN 0 else w)) ∧ (if (if w ∈ [y] then gN 0 else w) ∈ [y] then gN 1 else (if w ∈ [y] then gN 0 else w)) ∉ [y] := by
      simp only [List.mem_singleton]
      by_cases z : w = y
      · rw [if_pos z]
        by_cases u : gN 0 = y
        · rw [if_pos u]
          exact ⟨k1, fun v => k2 (u.trans v.symm)⟩
        · rw [if_neg u]; exact ⟨k0, u⟩
      · rw [if_neg z, if_neg z]; exact ⟨hw, z⟩
    exact h _ M3 key.1 key.2 S P3
end K11
set_option pp.deepTerms false
set_option pp.maxSteps 120
namespace K11
open PySem PySem.Spec AA TL
open L2 (FnScope defScope defBody)
open K10 (gcd_pos' gcd_turn lcm_eq dvd_of_mod pow_small put_math)
open K25 (Hit FirstK hit_ex hit_no gcd_dvds rest_step)
def pool6 : List Str := ["a", "b", "job", "each", "takes", "at"]
theorem pool6_nd : pool6.Nodup := by decide +kernel
theorem pool6_ok : ∀ w ∈ pool6, NameOk w := by decide +kernel
def nsB : Ss := match B_law_names with | .cons _ (.cons (.for_ _ _ b) _) => b | _ => .nil
theorem ns_loop {E : DE} {n f : Nat} {M0 : Mem} {C : Int} {x1 : Option D} (hC : C < 800000) (nf : f ≠ n) (f0 : M0.length ≤ f)
    (hE : ∀ M (ts : List Str) x3, ts.length = 2 → ts.Nodup → (∀ t ∈ ts, NameOk t) → Stays [n] M0 M → Pot M n C → M[f]? = some (.lst (ts.map D.str)) → E.nx [some (.ref n), x1, some (.ref f), x3] M) :
    ∀ (k : Nat) (lo : Int) (ts : List Str) (M : Mem) (c : Int) (x3 : Option D), ts.length + k = 2 → ts.Nodup → (∀ t ∈ ts, NameOk t) → Stays [n] M0 M → Pot M n c → c + 12 * k ≤ C → M[f]? = some (.lst (ts.map D.str)) →
    forD (bindT (.nm 3)) (wpSs (tab T47) nsB) (fun _ => True) E (rngL lo k) [some (.ref n), x1, some (.ref f), x3] M
  | 0, lo, ts, M, c, x3, e, nd, ok, S, P, hc, hf => ⟨trivial, hE M ts x3 e nd ok S (P.le (by omega)) hf⟩
  | k + 1, lo, ts, M, c, x3, e, nd, ok, S, P, hc, hf => by
    rw [rngL_succ]
    refine ⟨trivial, ?_⟩
    conv => whnf
    rw [hf]
    refine ⟨rfl, n, f, c, ts, rfl, nf, hf, by omega, P, by omega, fun w M1 hw hn S1 P1 => ?_⟩
    have hf1 : M1[f]? = some (.lst (ts.map D.str)) := S1.get hf (by simpa using nf)
    conv => whnf
    rw [hf1]
    refine ⟨by rw [List.length_map]; omega, ?_⟩
    refine ns_loop (E := E) (x1 := x1) hC nf f0 hE k (lo + 1) (ts ++ [w]) _ (c + 12) (some (.int lo)) (by rw [List.length_append]; show ts.length + 1 + k = 2; omega) ?_ (fun t ht => ?_) ((S.trans S1).set (.inr f0) _) ?_ (by omega) (by rw [List.map_append]; exact set_get hf1)
    · rw [List.nodup_append]
      refine ⟨nd, by simp, fun a ha b hb hab => ?_⟩
      rw [List.mem_singleton] at hb
      subst hb
      subst hab
      exact hn ha
    · rcases List.mem_append.mp ht with z | z
      · exact ok t z
      · rw [List.mem_singleton.mp z]; exact hw
    · obtain ⟨o, s, t, q1, q2⟩ := P1
      exact ⟨o, s, t, by rw [List.getElem?_set_ne nf]; exact q1, q2⟩
theorem ok_law_names : ∀ ds M Q X, ds.length = F_law_names.par.length → F_law_names.sp ds M Q X → wpSs (tab T47) B_law_names (dEnds Q X) (dstart N_law_names ds) M := by
  intro ds M Q X hl h
  obtain ⟨n, c, rfl, P, hc, h⟩ := h
  have nl := P.lt
  refine ⟨(by decide : (6 : Nat) ≤ 16777216), rfl, ?_⟩
  refine take_call P (by omega) (by decide) (by decide) fun d M1 d0 d1 D1 => ?_
  obtain ⟨kn, ek, k2⟩ : ∃ kn : Nat, (if d < 2 then d else 2) = (kn : Int) ∧ kn ≤ 2 := ⟨(if d < 2 then d else 2).toNat, by split <;> omega, by split <;> omega⟩
  conv => whnf
  rw [ek]
  refine ⟨rfl, n, c + 1, .lst (pool6.map D.str), pool6, kn, rfl, (fun z => by cases z), rfl, D1.pot, by omega, by show kn ≤ 6; omega, by decide, pool6_nd, fun ts M2 f tl tn tm S2 P2 hf e2 => ?_⟩
  have S2' := D1.stays.trans S2
  have l1 := D1.len
  conv => whnf
  rw [e2]
  refine ⟨⟨by rw [List.length_map]; omega, by rw [List.length_map]; omega⟩, ?_⟩
  obtain ⟨r, er, hr⟩ : ∃ r : Nat, ((2 : Int) - ((ts.map D.str).length : Int)).toNat = r ∧ ts.length + r = 2 := ⟨2 - ts.length, by rw [List.length_map]; omega, by omega⟩
  rw [er]
  refine ns_loop (M0 := M) (n := n) (f := f) (C := c + 40) (by omega) (by omega) (by omega) (fun M3 us x3 ul un uo S3 P3 e3 => ?_) r 0 ts M2 _ none hr tn (fun t ht => pool6_ok t (tm t ht)) S2' P2 (by omega) e2
  refine ⟨rfl, n, c + 40, .ref f, us, 2, rfl, (fun z => by cases z; omega), seqD_ref e3, P3, by omega, by omega, by omega, un, fun ws M4 g wl wn wm S4 P4 hg e4 => ?_⟩
  obtain ⟨a, b, rfl⟩ : ∃ a b, ws = [a, b] := by
    match ws, wl with
    | [a, b], _ => exact ⟨a, b, rfl⟩
  conv => whnf
  rw [e4]
  refine h a b M4 (uo a (wm a (by simp))) (uo b (wm b (by simp))) (by simpa using wn) (S3.trans S4) (P4.le (by omega))
/-! ### two pairs -/
def twB : Ss := match B_law_two with | .cons _ (.cons _ (.cons _ (.cons _ (.cons (.for_ _ _ b) _)))) => b | _ => .nil
theorem tw_step {E : DE} {n f : Nat} {M : Mem} {c F mo : Int} {xs : List D} {x1 x5 x6 x7 : Option D} (P : Pot M n c) (hc : c < 900000) (nf : f ≠ n) (hf : M[f]? = some (.lst xs)) (xl : xs.length ≤ 10) (F0 : 1 ≤ F) (F1 : F ≤ 300) (m0 : 1 ≤ mo) (m1 : mo ≤ 15000)
    (h : ∀ w b M', 1 ≤ w → w ≤ 999999 → 0 ≤ b → b ≤ 210379679 → Pot M' n (c + 3) → (∀ j, j ≠ n → j ≠ f → M'[j]? = M[j]?) → M'.length = M.length → M'[f]? = some (.lst (xs ++ [Pair (w, b)])) → E.nx [some (.ref n), x1, some (.int F), some (.int mo), some (.ref f), x5, some (.int w), some (.int b)] M') :
    wpSs (tab T49) twB E [some (.ref n), x1, some (.int F), some (.int mo), some (.ref f), x5, x6, x7] M := by
  refine ⟨rfl, ?_⟩
  refine take_call P (by omega) (by omega) (by omega) fun d M1 d0 d1 D1 => ⟨mul_l (by omega) (by omega), ?_⟩
  have w0 : 1 ≤ F * (1 + d) := by
    have : 1 * 1 ≤ F * (1 + d) := Int.mul_le_mul F0 (by omega) (by decide) (by omega)
    omega
  obtain ⟨w, ew, wa, wb⟩ : ∃ w : Int, (if F * (1 + d) < 999999 then F * (1 + d) else 999999) = w ∧ 1 ≤ w ∧ w ≤ 999999 := ⟨_, rfl, by split <;> omega, by split <;> omega⟩
  conv => whnf
  rw [ew]
  refine ⟨(by decide : (3 : Nat) ≤ 16777216), rfl, of_call (xs := [.int 50, .int 5000, .int 210379680]) D1.pot (by omega) (fun z => by cases z) rfl (by simp) (by simp) fun u M2 hu D2 => ?_⟩
  obtain ⟨v, rfl, v0, v1⟩ : ∃ v : Int, u = .int v ∧ 1 ≤ v ∧ v ≤ 210379680 := by
    have : u = .int 50 ∨ u = .int 5000 ∨ u = .int 210379680 := by simpa using hu
    rcases this with rfl | rfl | rfl <;> exact ⟨_, rfl, by decide, by decide⟩
  refine ⟨rfl, take_call D2.pot (by omega) (by omega) (by omega) fun b M3 b0 b1 D3 => ?_⟩
  have hf3 : M3[f]? = some (.lst xs) := by rw [D3.oth f nf, D2.oth f nf, D1.oth f nf]; exact hf
  conv => whnf
  rw [hf3]
  refine ⟨(by decide : (2 : Nat) ≤ 16777216), ?_⟩
  conv => whnf
  rw [hf3]
  refine ⟨by omega, ?_⟩
  refine h w b _ wa wb b0 (by omega) ?_ (fun j jn jf => ?_) (by rw [List.length_set, D3.len, D2.len, D1.len]) (set_get hf3)
  · obtain ⟨o, s, t, q1, q2, q3, q4⟩ := D3.pot
    exact ⟨o, s, t, by rw [List.getElem?_set_ne nf]; exact q1, q2, by omega, q4⟩
  · rw [List.getElem?_set_ne (Ne.symm jf), D3.oth j jn, D2.oth j jn, D1.oth j jn]
theorem ok_law_two : ∀ ds M Q X, ds.length = F_law_two.par.length → F_law_two.sp ds M Q X → wpSs (tab T49) B_law_two (dEnds Q X) (dstart N_law_two ds) M := by
  intro ds M Q X hl h
  obtain ⟨n, c, rfl, P, hc, h⟩ := h
  have nl := P.lt
  refine ⟨rfl, take_call P (by omega) (by decide) (by decide) fun way M1 y0 y1 D1 => ?_⟩
  have rest : ∀ F M2, 1 ≤ F → F ≤ 300 → Stays [n] M M2 → Pot M2 n (c + 2) → wpSs (tab T49) (tailN 2 B_law_two) (dEnds Q X) [some (.ref n), some (.int way), some (.int F), none, none, none, none, none] M2 := by
    intro F M2 F0 F1 S2 P2
    have nl2 := P2.lt
    refine ⟨(by decide : (4 : Nat) ≤ 16777216), ?_⟩
    obtain ⟨e, he, ea⟩ := atI_nat (xs := [.int 3000, .int 40, .int 1000, .int 15000]) y0 (by show way < 4; exact y1)
    obtain ⟨mo, rfl, m0, m1⟩ : ∃ mo : Int, e = .int mo ∧ 1 ≤ mo ∧ mo ≤ 15000 := by
      have : e = .int 3000 ∨ e = .int 40 ∨ e = .int 1000 ∨ e = .int 15000 := by simpa using he
      rcases this with rfl | rfl | rfl | rfl <;> exact ⟨_, rfl, by decide, by decide⟩
    refine idxD_of (M := M2) (x := .lst [.int 3000, .int 40, .int 1000, .int 15000]) rfl ea ?_
    refine ⟨(by decide : (0 : Nat) ≤ 16777216), ⟨by decide, by decide⟩, trivial, ?_⟩
    have nf : M2.length ≠ n := by omega
    refine tw_step (f := M2.length) (xs := []) (F := F) (mo := mo) (P2.keepS (S := []) ((Stays.refl [] M2).app _) (by simp)) (by omega) nf (last_get M2 _) (by simp) F0 F1 m0 m1 fun w1 b1 M3 wa wb ba bb P3 K3 L3 e3 => ⟨trivial, ?_⟩
    refine tw_step (f := M2.length) (F := F) (mo := mo) P3 (by omega) nf e3 (by simp) F0 F1 m0 m1 fun w2 b2 M4 wc wd bc bd P4 K4 L4 e4 => ⟨trivial, ?_⟩
    have S4 : Stays [n] M M4 := ⟨by rw [L4, L3, List.length_append]; have := S2.len; omega, fun j hj hs => by
      have jn : j ≠ n := by simpa using hs
      have jl : j < M2.length := Nat.lt_of_lt_of_le hj S2.len
      rw [K4 j jn (by omega), K3 j jn (by omega), List.getElem?_append_left jl]
      exact S2.at_ j hj hs⟩
    refine ⟨rfl, take_call P4 (by omega) (by decide) (by decide) fun d M5 d0 d1 D5 => ?_⟩
    have e5 : M5[M2.length]? = some (.lst [Pair (w1, b1), Pair (w2, b2)]) := by rw [D5.oth _ nf]; exact e4
    have S5 := S4.trans D5.stays
    have fin : ∀ M6 b3 x5, 0 ≤ b3 → M6[M2.length]? = some (.lst [Pair (w1, b1), .tup [.int w2, .int b3]]) → Stays [n] M M6 → Pot M6 n (c + 20) → wpSs (tab T49) (tailN 6 B_law_two) (dEnds Q X) [some (.ref n), some (.int way), some (.int F), some (.int mo), some (.ref M2.length), x5, some (.int w2), some (.int b2)] M6 := by
      intro M6 b3 x5 b30 e6 S6 P6
      obtain ⟨b4, e4', ba4, bb4⟩ : ∃ b4 : Int, (if (210379679 : Int) < b3 then (210379679 : Int) else b3) = b4 ∧ 0 ≤ b4 ∧ b4 ≤ 210379679 := ⟨_, rfl, by split <;> omega, by split <;> omega⟩
      have hh := h (w1, b1) (w2, b4) M6 ⟨wa, wb, ba, bb⟩ ⟨wc, wd, ba4, bb4⟩ S6 P6
      conv => whnf
      rw [seqD_ref e6]
      conv => whnf
      rw [seqD_ref e6]
      conv => whnf
      rw [seqD_ref e6]
      rw [← e4'] at hh
      exact ⟨(by decide : (2 : Nat) ≤ 16777216), (by decide : (2 : Nat) ≤ 16777216), hh⟩
    by_cases z : 0 < d
    · refine iteT (c := decide (0 < d) = true) (decide_eq_true z) ?_
      conv => whnf
      rw [seqD_ref e5]
      conv => whnf
      rw [seqD_ref e5]
      refine ⟨rfl, take_call D5.pot (by omega) (by decide) (by decide) fun g M6 g0 g1 D6 => ?_⟩
      refine ⟨mul_l (by omega) (by omega), (by decide : (2 : Nat) ≤ 16777216), ?_⟩
      have e6 : M6[M2.length]? = some (.lst [Pair (w1, b1), Pair (w2, b2)]) := by rw [D6.oth _ nf]; exact e5
      conv => whnf
      rw [e6]
      have fg : 0 ≤ F * g := Int.mul_nonneg (by omega) g0
      refine fin _ (b1 + F * g) _ (by omega) (set_get e6) ((S5.trans D6.stays).set (.inr S2.len) _) ?_
      obtain ⟨o, s, t, q1, q2, q3, q4⟩ := D6.pot
      exact ⟨o, s, t, by rw [List.getElem?_set_ne nf]; exact q1, q2, by omega, q4⟩
    · refine iteF (c := decide (0 < d) = true) (by rw [decide_eq_true_eq]; exact z) ?_
      exact fin _ b2 _ bc e5 S5 (D5.pot.le (by omega))
  by_cases z : 0 < way
  · refine iteT (c := decide (0 < way) = true) (decide_eq_true z) ?_
    refine ⟨(by decide : (5 : Nat) ≤ 16777216), rfl, of_call (xs := [.int 1, .int 2, .int 5, .int 12, .int 60]) D1.pot (by omega) (fun z => by cases z) rfl (by simp) (by simp) fun u M2 hu D2 => ?_⟩
    obtain ⟨F, rfl, F0, F1⟩ : ∃ F : Int, u = .int F ∧ 1 ≤ F ∧ F ≤ 300 := by
      have : u = .int 1 ∨ u = .int 2 ∨ u = .int 5 ∨ u = .int 12 ∨ u = .int 60 := by simpa using hu
      rcases this with rfl | rfl | rfl | rfl | rfl <;> exact ⟨_, rfl, by decide, by decide⟩
    exact rest F M2 F0 F1 (D1.stays.trans D2.stays) (D2.pot.le (by omega))
  · refine iteF (c := decide (0 < way) = true) (by rw [decide_eq_true_eq]; exact z) ?_
    refine ⟨rfl, take_call D1.pot (by omega) (by decide) (by decide) fun d M2 d0 d1 D2 => ?_⟩
    exact rest (1 + d) M2 (by omega) (by omega) (D1.stays.trans D2.stays) (D2.pot.le (by omega))
end K11
set_option pp.deepTerms false
set_option pp.maxSteps 120
namespace K11
open PySem PySem.Spec AA TL
open L2 (FnScope defScope defBody)
open K10 (gcd_pos' gcd_turn lcm_eq dvd_of_mod pow_small put_math)
open K25 (Hit FirstK hit_ex hit_no gcd_dvds rest_step)
/-! ### gone through run by run -/
theorem step_nat (s N : Int) (j : Nat) : s + N * (j : Int) + N = s + N * ((j + 1 : Nat) : Int) := by
  rw [show ((j + 1 : Nat) : Int) = (j : Int) + 1 by omega, Int.mul_add, Int.mul_one]
  omega
theorem lcm_div {p q : Int × Int} (hp : PairOk p) (hq : PairOk q) : p.1 * q.1 / (Int.gcd p.1 q.1 : Int) = (Int.lcm p.1 q.1 : Int) := by
  have p1 := hp.1
  have q1 := hq.1
  have g0 := gcd_pos' (m := q.1) p1
  obtain ⟨e, he⟩ := (gcd_dvds p.1 q.1).2
  have := lcm_eq p1 q1 he
  rw [this]
  have e2 : p.1 * q.1 = (Int.gcd p.1 q.1 : Int) * (p.1 * e) := by
    have : p.1 * ((Int.gcd p.1 q.1 : Int) * e) = (Int.gcd p.1 q.1 : Int) * (p.1 * e) := by ac_rfl
    rw [← this, ← he]
  rw [e2, Int.mul_ediv_cancel_left _ (by omega)]
theorem hit1 {s N b e : Int} {k : Nat} (he : 0 < e) : Hit s N b e 1 k ↔ (s + N * k - b) % e = 0 := by
  unfold Hit
  have := Int.emod_nonneg (s + N * k - b) (show e ≠ 0 by omega)
  omega
def mtB : Ss := match B_law_met with | .cons _ (.cons _ (.cons _ (.cons _ (.cons (.for_ _ _ b) _)))) => b | _ => .nil
def metD (p q : Int × Int) (f : Int) : D := if f ≤ 210379679 then .tup [.int f, .int (Int.lcm p.1 q.1)] else .tup [.non, .int 0]
theorem mt_loop {E : DE} {M : Mem} {p q : Int × Int} {x0 x1 : Option D} (hp : PairOk p) (hq : PairOk q) {k : Nat} (fk : FirstK (st p.1 p.2 q.2) p.1 q.2 q.1 1 k) (hE : E.rt (metD p q (st p.1 p.2 q.2 + p.1 * k)) M) :
    ∀ (n : Nat) (lo : Int) (j : Nat) (x8 : Option D), j ≤ k → k < j + n →
    forD (bindT (.nm 8)) (wpSs (tab T50) mtB) (fun _ => True) E (rngL lo n) [x0, x1, some (.int 210379679), some (.int p.1), some (.int p.2), some (.int q.1), some (.int q.2), some (.int (st p.1 p.2 q.2 + p.1 * j)), x8] M
  | 0, lo, j, x8, hj, hk => absurd hk (by omega)
  | n + 1, lo, j, x8, hj, hk => by
    obtain ⟨p1, p2, p3, p4⟩ := id hp
    obtain ⟨q1, q2, q3, q4⟩ := id hq
    rw [rngL_succ]
    refine ⟨trivial, by omega, shaped_int _, shaped_int _, ?_⟩
    by_cases z : Hit (st p.1 p.2 q.2) p.1 q.2 q.1 1 j
    · have ej : j = k := by
        rcases Nat.lt_or_eq_of_le hj with w | w
        · exact absurd z (fk.2 j w)
        · exact w
      subst ej
      refine iteT (c := (PyData.eqv (.int ((st p.1 p.2 q.2 + p.1 * (j : Int) - q.2) % q.1)) (.int 0)) = true) (by rw [eqv_int, decide_eq_true_eq]; exact (hit1 (by omega)).mp z) ?_
      unfold metD at hE
      by_cases y : st p.1 p.2 q.2 + p.1 * (j : Int) ≤ 210379679
      · rw [if_pos y] at hE
        refine iteT (c := decide (st p.1 p.2 q.2 + p.1 * (j : Int) ≤ 210379679) = true) (decide_eq_true y) ?_
        have g0 := gcd_pos' (m := q.1) p1
        have gl : ((Int.gcd p.1 q.1 : Nat) : Int) ≤ q.1 := Int.le_of_dvd (by omega) (gcd_dvds p.1 q.1).2
        have big1 : (999999 : Int) ≤ big := by decide
        refine ⟨mul_l (by omega) (by omega), rfl, p.1, q.1, rfl, by omega, by omega, by omega, q2, div_ok g0 (by omega), (by decide : (2 : Nat) ≤ 16777216), ?_⟩
        rw [lcm_div hp hq]
        exact hE
      · rw [if_neg y] at hE
        refine iteF (c := decide (st p.1 p.2 q.2 + p.1 * (j : Int) ≤ 210379679) = true) (by rw [decide_eq_true_eq]; exact y) ?_
        exact ⟨(by decide : (2 : Nat) ≤ 16777216), hE⟩
    · refine iteF (c := (PyData.eqv (.int ((st p.1 p.2 q.2 + p.1 * (j : Int) - q.2) % q.1)) (.int 0)) = true) (by rw [eqv_int, decide_eq_true_eq]; exact fun w => z ((hit1 (by omega)).mpr w)) ?_
      have jk : j < k := by
        rcases Nat.lt_or_eq_of_le hj with w | w
        · exact w
        · rw [w] at z; exact absurd fk.1 z
      by_cases y : 210379679 < st p.1 p.2 q.2 + p.1 * (j : Int) + p.1
      · refine iteT (c := decide ((210379679 : Int) < st p.1 p.2 q.2 + p.1 * (j : Int) + p.1) = true) (decide_eq_true y) ?_
        unfold metD at hE
        rw [step_nat] at y
        have : p.1 * ((j + 1 : Nat) : Int) ≤ p.1 * (k : Int) := Int.mul_le_mul_of_nonneg_left (by omega) (by omega)
        rw [if_neg (by omega)] at hE
        exact ⟨(by decide : (2 : Nat) ≤ 16777216), hE⟩
      · refine iteF (c := decide ((210379679 : Int) < st p.1 p.2 q.2 + p.1 * (j : Int) + p.1) = true) (by rw [decide_eq_true_eq]; exact y) ?_
        have next := mt_loop (E := E) (M := M) (x0 := x0) (x1 := x1) hp hq fk hE n (lo + 1) (j + 1) (some (.int lo)) (by omega) (by omega)
        rw [← step_nat] at next
        exact next
theorem met_tail {M : Mem} {Q : DK} {X : XD} {p q : Int × Int} {x0 x1 : Option D} (hp : PairOk p) (hq : PairOk q) (h1 : ¬ Div p q → Q .non M) (h2 : Div p q → ∀ f, IsF p q f → Q (metD p q f) M) :
    wpSs (tab T50) (tailN 2 B_law_met) (dEnds Q X) [x0, x1, some (.int 210379679), some (.int p.1), some (.int p.2), some (.int q.1), some (.int q.2), none, none] M := by
  obtain ⟨p1, p2, p3, p4⟩ := id hp
  obtain ⟨q1, q2, q3, q4⟩ := id hq
  have g0 := gcd_pos' (m := q.1) p1
  have big1 : (999999 : Int) ≤ big := by decide
  refine ⟨rfl, p.1, q.1, rfl, by omega, by omega, by omega, q2, g0, shaped_int _, shaped_int _, ?_⟩
  by_cases d : Div p q
  · refine iteF (c := (!PyData.eqv (.int ((p.2 - q.2) % (Int.gcd p.1 q.1 : Int))) (.int 0)) = true) (ne_int' (div_sym.mpr d)) ?_
    obtain ⟨k, fk, kl⟩ := gone_ex hp hq d
    have hF := gone_isF hp hq fk
    have go : ∀ x : Int, x = st p.1 p.2 q.2 → wpSs (tab T50) (tailN 4 B_law_met) (dEnds Q X) [x0, x1, some (.int 210379679), some (.int p.1), some (.int p.2), some (.int q.1), some (.int q.2), some (.int x), none] M := by
      intro x ex
      subst ex
      refine ⟨⟨by omega, by omega⟩, ?_⟩
      have main := mt_loop (E := { nx := fun δ M => wpSs (tab T50) (tailN 5 B_law_met) (dEnds Q X) δ M, rt := Q, xc := fun c d _ M' => X c d M' }) (M := M) (x0 := x0) (x1 := x1) hp hq fk (h2 d _ hF) q.1.toNat 0 0 none (by omega) (by omega)
      rw [show st p.1 p.2 q.2 + p.1 * ((0 : Nat) : Int) = st p.1 p.2 q.2 by simp] at main
      exact main
    by_cases z : q.2 ≤ p.2
    · refine iteT (c := decide (q.2 ≤ p.2) = true) (decide_eq_true z) ?_
      refine go _ ?_
      unfold st
      rw [if_pos z]
    · refine iteF (c := decide (q.2 ≤ p.2) = true) (by rw [decide_eq_true_eq]; exact z) ?_
      refine ⟨div_ok (by omega) (by omega), mul_l (by omega) (by omega), ?_⟩
      refine go _ ?_
      unfold st
      rw [if_neg z]
  · refine iteT (c := (!PyData.eqv (.int ((p.2 - q.2) % (Int.gcd p.1 q.1 : Int))) (.int 0)) = true) (ne_int (fun z => d (div_sym.mp z))) ?_
    exact h1 d
theorem ok_law_met : ∀ ds M Q X, ds.length = F_law_met.par.length → F_law_met.sp ds M Q X → wpSs (tab T50) B_law_met (dEnds Q X) (dstart N_law_met ds) M := by
  intro ds M Q X hl h
  obtain ⟨p, q, rfl, hp, hq, h1, h2⟩ := h
  by_cases z : q.1 ≤ p.1
  · refine iteT (c := decide (q.1 ≤ p.1) = true) (decide_eq_true z) ?_
    refine ⟨(by decide : (2 : Nat) ≤ 16777216), ?_⟩
    exact met_tail hp hq h1 h2
  · refine iteF (c := decide (q.1 ≤ p.1) = true) (by rw [decide_eq_true_eq]; exact z) ?_
    refine ⟨(by decide : (2 : Nat) ≤ 16777216), ?_⟩
    refine met_tail hq hp (fun nd => h1 fun d => nd (div_comm.mp d)) fun d f hf => ?_
    have := h2 (div_comm.mp d) f hf.comm
    unfold metD
    rw [Int.lcm_comm q.1 p.1]
    exact this
end K11
set_option pp.deepTerms false
set_option pp.maxSteps 120
namespace K11
open PySem PySem.Spec AA TL
open L2 (FnScope defScope defBody)
open K10 (gcd_pos' gcd_turn lcm_eq dvd_of_mod pow_small put_math)
open K25 (Hit FirstK hit_ex hit_no gcd_dvds rest_step)
/-! ### what is asked of one draw -/
theorem big_of {i : Int} (h0 : -(10 ^ 30) ≤ i) (h1 : i ≤ 10 ^ 30) : -AA.big ≤ i ∧ i ≤ AA.big := by unfold AA.big; omega
theorem atom_w : Atom (.str "apart") ∧ Atom (.str "rests") ∧ Atom (.str "late") ∧ Atom (.str "meet") :=
  ⟨⟨rfl, rfl, by simp [PyData.depth], by decide +kernel⟩, ⟨rfl, rfl, by simp [PyData.depth], by decide +kernel⟩, ⟨rfl, rfl, by simp [PyData.depth], by decide +kernel⟩, ⟨rfl, rfl, by simp [PyData.depth], by decide +kernel⟩⟩
theorem apart_ok (p q : Int × Int) : ReprOk (.tuple [.str "apart", .str (if Div p q then "late" else "rests")]) := repr_atoms (by simp) (by simp) fun x hx => by
  have : x = .str "apart" ∨ x = .str (if Div p q then "late" else "rests") := by simpa using hx
  rcases this with rfl | rfl
  · exact atom_w.1
  · split
    · exact atom_w.2.2.1
    · exact atom_w.2.1
theorem meet_ok {f : Int} (h0 : 0 ≤ f) (h1 : f ≤ 210379679) : ReprOk (.tuple [.str "meet", .int f]) := repr_atoms (by simp) (by simp) fun x hx => by
  have : x = .str "meet" ∨ x = .int f := by simpa using hx
  rcases this with rfl | rfl
  · exact atom_w.2.2.2
  · exact atom_int (big_of (by omega) (by omega)).1 (big_of (by omega) (by omega)).2
theorem apart_comm (p q : Int × Int) : apartD q p = apartD p q := by
  unfold apartD
  by_cases d : Div p q
  · rw [if_pos d, if_pos (div_comm.mp d)]
  · rw [if_neg d, if_neg (fun z => d (div_comm.mp z))]
theorem Jobs2.comm {kr : List (L2.Key × D)} {ns : List Str} {a b : Str} {p q : Int × Int} (h : Jobs2 kr ns a b p q) : Jobs2 kr ns b a q p := ⟨h.2.1, h.1, h.2.2.2.1, h.2.2.1, h.2.2.2.2.2, h.2.2.2.2.1⟩
/-- no minute at which both run -/
theorem r_apart {Q : DK} {X : XD} {M : Mem} {n m : Nat} {c : Int} {kr : List (L2.Key × D)} {ns : List Str} {a b : Str} {p q : Int × Int} {x1 x2 x4 x5 x6 x7 x9 x12 x13 x14 x15 x16 : Option D} (P : Pot M n c) (hc : c < 800000) (ra : RulesAt M m kr ns) (j2 : Jobs2 kr ns a b p q)
    (late : ∀ f, IsF p q f → 210379679 < f) (h : ∀ M', Pot M' n (c + 1) → Q (.bl true) M') :
    wpSs (tab T58) (tailN 6 B_law_right) (dEnds Q X) [some (.ref n), x1, x2, some (.tup [.str a, .str b]), x4, x5, x6, x7, some (.ref m), x9, some (apartD p q), none, x12, x13, x14, x15, x16] M := by
  obtain ⟨ha, hb, va, vb, hp, hq⟩ := id j2
  have ok := apart_ok p q
  have t8 : ∀ M2, Stays [] M M2 → wpSs (tab T58) (tailN 8 B_law_right) (dEnds Q X) [some (.ref n), x1, x2, some (.tup [.str a, .str b]), x4, x5, x6, x7, some (.ref m), x9, some (apartD p q), none, x12, x13, x14, x15, x16] M2 := by
    intro M2 S2
    have ra2 := ra.more0 S2
    refine ⟨rfl, take_call (P.keepS S2 (by simp)) (by omega) (by decide) (by decide) fun t M3 t0 t1 D3 => ?_⟩
    have S3 : ∀ (j : Nat) (o : MO), j ≠ n → M2[j]? = some o → M3[j]? = some o := fun j o jn e => by rw [D3.oth j jn]; exact e
    have ra3 : RulesAt M3 m kr ns := by
      obtain ⟨t', r, s, u, o, dr⟩ := ra2
      obtain ⟨po, ps, pt, pq, _⟩ := P.keepS S2 (by simp)
      exact ⟨t', r, s, u, S3 m _ (dif_of o pq (fun z => by cases z)) o, S3 r _ (dif_of dr pq (fun z => by cases z)) dr⟩
    have fin : ∀ M5, Stays [] M3 M5 → Q (.bl true) M5 := fun M5 S5 => h M5 (D3.pot.keepS S5 (by simp))
    have two : ∀ M4, Stays [] M3 M4 → wpE (tab T58) (.cmp .is (.call 37 (.cons (.var 8) (.cons (.idx (.var 3) (.int 0)) (.cons (.idx (.var 3) (.int 1)) (.cons (.var 11) .nil))))) .non) [some (.ref n), x1, x2, some (.tup [.str a, .str b]), x4, x5, x6, x7, some (.ref m), x9, some (apartD p q), some (.int t), x12, x13, x14, x15, x16] M4 Q (fun c d M1 => X c d M1) := by
      intro M4 S4
      refine ⟨rfl, m, kr, ns, a, b, p, q, t, rfl, ra3.more0 S4, j2, t0, by omega, fun nd M5 S5 => ?_, fun d x M5 hx S5 => ?_⟩
      · exact fin M5 (S4.trans S5)
      · have hF := fm_isF hp hq hx
        have lf := late _ hF
        have e := fm_later hp hq (t := t) hx hF
        rw [if_pos (by omega)] at e
        rw [e]
        unfold optT
        rw [if_neg (by omega)]
        exact fin M5 (S4.trans S5)
    refine ⟨rfl, m, kr, ns, a, b, p, q, rfl, ra3, j2, fun nd M4 S4 => ?_, fun d f M4 hf S4 => ?_⟩
    · exact ⟨shaped_int _, shaped_int _, two M4 S4⟩
    · have lf := late f hf
      have em : manyD p q f = 0 := by unfold manyD; rw [if_neg (by omega)]
      rw [em]
      exact ⟨shaped_int _, shaped_int _, two M4 S4⟩
  have t7 : ∀ M1, Stays [] M M1 → wpSs (tab T58) (tailN 7 B_law_right) (dEnds Q X) [some (.ref n), x1, x2, some (.tup [.str a, .str b]), x4, x5, x6, x7, some (.ref m), x9, some (apartD p q), none, x12, x13, x14, x15, x16] M1 := by
    intro M1 S1
    refine ⟨rfl, m, kr, ns, b, a, q, p, rfl, ra.more0 S1, j2.comm, fun nd M2 S2 => ?_, fun d f M2 hf S2 => ?_⟩
    · rw [apart_comm p q]
      exact ⟨ok, ok, iteF (c := (!decide (PyData.shown (.tuple [.str "apart", .str (if Div p q then "late" else "rests")]) = PyData.shown (.tuple [.str "apart", .str (if Div p q then "late" else "rests")]))) = true) (by rw [decide_eq_true rfl]; decide) (t8 M2 (S1.trans S2))⟩
    · have lf := late f hf.comm
      rw [if_neg (by omega), apart_comm p q]
      exact ⟨ok, ok, iteF (c := (!decide (PyData.shown (.tuple [.str "apart", .str (if Div p q then "late" else "rests")]) = PyData.shown (.tuple [.str "apart", .str (if Div p q then "late" else "rests")]))) = true) (by rw [decide_eq_true rfl]; decide) (t8 M2 (S1.trans S2))⟩
  refine ⟨rfl, m, kr, ns, a, b, p, q, rfl, ra, j2, fun nd M2 S2 => ?_, fun d f M2 hf S2 => ?_⟩
  · exact ⟨ok, ok, iteF (c := (!decide (PyData.shown (.tuple [.str "apart", .str (if Div p q then "late" else "rests")]) = PyData.shown (.tuple [.str "apart", .str (if Div p q then "late" else "rests")]))) = true) (by rw [decide_eq_true rfl]; decide) (t7 M2 S2)⟩
  · have lf := late f hf
    rw [if_neg (by omega)]
    exact ⟨ok, ok, iteF (c := (!decide (PyData.shown (.tuple [.str "apart", .str (if Div p q then "late" else "rests")]) = PyData.shown (.tuple [.str "apart", .str (if Div p q then "late" else "rests")]))) = true) (by rw [decide_eq_true rfl]; decide) (t7 M2 S2)⟩
end K11
set_option pp.deepTerms false
set_option pp.maxSteps 120
namespace K11
open PySem PySem.Spec AA TL
open L2 (FnScope defScope defBody)
open K10 (gcd_pos' gcd_turn lcm_eq dvd_of_mod pow_small put_math)
open K25 (Hit FirstK hit_ex hit_no gcd_dvds rest_step)
theorem ra_drawn {M M1 : Mem} {n m : Nat} {c : Int} {kr : List (L2.Key × D)} {ns : List Str} (ra : RulesAt M m kr ns) (P : Pot M n c) (D1 : Drawn M M1 n c) : RulesAt M1 m kr ns := by
  obtain ⟨t', r, s, u, o, dr⟩ := ra
  obtain ⟨po, ps, pt, pq, _⟩ := P
  exact ⟨t', r, s, u, by rw [D1.oth m (dif_of o pq (fun z => by cases z))]; exact o, by rw [D1.oth r (dif_of dr pq (fun z => by cases z))]; exact dr⟩
theorem opt_rep {s : Int} (h0 : 0 ≤ s) : ∃ pp, (∀ M, pdM M (optT s) = some pp) ∧ ReprOk pp := by
  unfold optT
  by_cases z : s ≤ 210379679
  · rw [if_pos z]
    exact ⟨.int s, fun _ => rfl, repr_int (big_of (by omega) (by omega)).1 (big_of (by omega) (by omega)).2⟩
  · rw [if_neg z]
    exact ⟨.none, fun _ => rfl, rep_non⟩
theorem lcm_dok {p q : Int × Int} (hp : PairOk p) (hq : PairOk q) : DivOk (Int.lcm p.1 q.1 : Int) := by
  have l0 := lcm_pos hp hq
  have lb := lcm_big hp hq
  exact ⟨by omega, .inr (by
    have : ((Int.lcm p.1 q.1 : Nat) : Int).natAbs.log2 < 100 := log2_lt (k := 100) (Nat.lt_of_lt_of_le (show ((Int.lcm p.1 q.1 : Nat) : Int).natAbs < 10 ^ 13 by omega) (by decide)) (by decide)
    omega)⟩
def rmB : Ss := match tailN 12 B_law_right with | .cons (.for_ _ _ b) _ => b | _ => .nil
/-- the next one -/
def sv (p q : Int × Int) (f u : Int) : Int := if u ≤ f then f else f + (Int.lcm p.1 q.1 : Int) * (0 - (f - u) / (Int.lcm p.1 q.1 : Int))
theorem sv_ge {p q : Int × Int} (hp : PairOk p) (hq : PairOk q) {f u : Int} (f0 : 0 ≤ f) (u0 : 0 ≤ u) : 0 ≤ sv p q f u := by
  have l0 := lcm_pos hp hq
  unfold sv
  split
  · exact f0
  · have rd := Int.emod_add_mul_ediv (f - u) (Int.lcm p.1 q.1 : Int)
    have r0 := Int.emod_nonneg (f - u) (show ((Int.lcm p.1 q.1 : Nat) : Int) ≠ 0 by omega)
    rw [Int.mul_sub, Int.mul_zero]
    omega
/-- one lap: behind the drawn time -/
theorem rm_tail {E : DE} {M : Mem} {n m : Nat} {c : Int} {kr : List (L2.Key × D)} {ns : List Str} {a b : Str} {p q : Int × Int} {f u : Int} {x1 x2 x4 x5 x6 x7 x9 x10 x14 x15 x16 : Option D} (P : Pot M n c) (ra : RulesAt M m kr ns) (j2 : Jobs2 kr ns a b p q) (d : Div p q) (hF : IsF p q f) (f0 : 0 ≤ f) (u0 : 0 ≤ u)
    (h : ∀ M' y10 y16, Pot M' n c → RulesAt M' m kr ns → E.nx [some (.ref n), x1, x2, some (.tup [.str a, .str b]), x4, x5, x6, x7, some (.ref m), x9, y10, some (.int u), some (.int f), some (.int (Int.lcm p.1 q.1 : Int)), x14, x15, y16] M') :
    wpSs (tab T58) (tailN 1 rmB) E [some (.ref n), x1, x2, some (.tup [.str a, .str b]), x4, x5, x6, x7, some (.ref m), x9, x10, some (.int u), some (.int f), some (.int (Int.lcm p.1 q.1 : Int)), x14, x15, x16] M := by
  obtain ⟨ha, hb, va, vb, hp, hq⟩ := id j2
  have l0 := lcm_pos hp hq
  have lb := lcm_big hp hq
  have s0 := sv_ge hp hq (u := u) f0 u0
  have t3 : wpSs (tab T58) (tailN 3 rmB) E [some (.ref n), x1, x2, some (.tup [.str a, .str b]), x4, x5, x6, x7, some (.ref m), x9, some (optT (sv p q f u)), some (.int u), some (.int f), some (.int (Int.lcm p.1 q.1 : Int)), x14, x15, some (.int (sv p q f u))] M := by
    by_cases z : u ≤ 210379679
    · refine iteT (c := decide (u ≤ 210379679) = true) (decide_eq_true z) ?_
      refine ⟨rfl, m, kr, ns, a, b, p, q, u, rfl, ra, j2, u0, z, fun nd => absurd d nd, fun _ x M2 hx S2 => ?_⟩
      have e := fm_later hp hq (t := u) hx hF
      rw [show (if u ≤ f then f else f + (Int.lcm p.1 q.1 : Int) * (0 - (f - u) / (Int.lcm p.1 q.1 : Int))) = sv p q f u from rfl] at e
      rw [e]
      obtain ⟨pp, hpp, hok⟩ := opt_rep s0
      conv => whnf
      rw [hpp]
      refine ⟨hok, ?_⟩
      conv => whnf
      rw [hpp]
      refine ⟨hok, ?_⟩
      refine iteF (c := (!decide (PyData.shown pp = PyData.shown pp)) = true) (by rw [decide_eq_true rfl]; decide) ?_
      exact h M2 _ _ (P.keepS S2 (by simp)) (ra.more0 S2)
    · refine iteF (c := decide (u ≤ 210379679) = true) (by rw [decide_eq_true_eq]; exact z) ?_
      exact h M _ _ P ra
  have t2 : wpSs (tab T58) (tailN 2 rmB) E [some (.ref n), x1, x2, some (.tup [.str a, .str b]), x4, x5, x6, x7, some (.ref m), x9, x10, some (.int u), some (.int f), some (.int (Int.lcm p.1 q.1 : Int)), x14, x15, some (.int (sv p q f u))] M := by
    by_cases z : sv p q f u ≤ 210379679
    · rw [show optT (sv p q f u) = .int (sv p q f u) from if_pos z] at t3
      refine iteT (c := decide (sv p q f u ≤ 210379679) = true) (decide_eq_true z) ?_
      exact t3
    · rw [show optT (sv p q f u) = .non from if_neg z] at t3
      refine iteF (c := decide (sv p q f u ≤ 210379679) = true) (by rw [decide_eq_true_eq]; exact z) ?_
      exact t3
  by_cases z : u ≤ f
  · rw [show sv p q f u = f from if_pos z] at t2
    refine iteT (c := decide (u ≤ f) = true) (decide_eq_true z) ?_
    exact t2
  · rw [show sv p q f u = f + (Int.lcm p.1 q.1 : Int) * (0 - (f - u) / (Int.lcm p.1 q.1 : Int)) from if_neg z] at t2
    refine iteF (c := decide (u ≤ f) = true) (by rw [decide_eq_true_eq]; exact z) ?_
    exact ⟨lcm_dok hp hq, mul_l (by omega) (by omega), t2⟩
theorem rm_loop {E : DE} {n m : Nat} {kr : List (L2.Key × D)} {ns : List Str} {a b : Str} {p q : Int × Int} {f mn : Int} {C : Int} {x1 x2 x4 x5 x6 x7 x9 : Option D} (hC : C < 900000) (j2 : Jobs2 kr ns a b p q) (d : Div p q) (hF : IsF p q f) (f0 : 0 ≤ f) (f1 : f ≤ 210379679) (em : mn = (210379679 - f) / (Int.lcm p.1 q.1 : Int) + 1)
    (hE : ∀ M x10 x11 x15 x16, Pot M n C → RulesAt M m kr ns → E.nx [some (.ref n), x1, x2, some (.tup [.str a, .str b]), x4, x5, x6, x7, some (.ref m), x9, x10, x11, some (.int f), some (.int (Int.lcm p.1 q.1 : Int)), some (.int mn), x15, x16] M) :
    ∀ (k : Nat) (lo : Int) (M : Mem) (c : Int) (x10 x11 x15 x16 : Option D), Pot M n c → RulesAt M m kr ns → c + 3 * k ≤ C →
    forD (bindT (.nm 15)) (wpSs (tab T58) rmB) (fun _ => True) E (rngL lo k) [some (.ref n), x1, x2, some (.tup [.str a, .str b]), x4, x5, x6, x7, some (.ref m), x9, x10, x11, some (.int f), some (.int (Int.lcm p.1 q.1 : Int)), some (.int mn), x15, x16] M
  | 0, lo, M, c, x10, x11, x15, x16, P, ra, hc => ⟨trivial, hE M _ _ _ _ (P.le (by omega)) ra⟩
  | k + 1, lo, M, c, x10, x11, x15, x16, P, ra, hc => by
    obtain ⟨ha, hb, va, vb, hp, hq⟩ := id j2
    have l0 := lcm_pos hp hq
    have lb := lcm_big hp hq
    have rd := Int.emod_add_mul_ediv (210379679 - f) (Int.lcm p.1 q.1 : Int)
    have r0 := Int.emod_nonneg (210379679 - f) (show ((Int.lcm p.1 q.1 : Nat) : Int) ≠ 0 by omega)
    have q0 : 0 ≤ (210379679 - f) / (Int.lcm p.1 q.1 : Int) := Int.ediv_nonneg (by omega) (by omega)
    have q1 : (210379679 - f) / (Int.lcm p.1 q.1 : Int) ≤ 210379679 - f := Int.ediv_le_self _ (by omega)
    rw [rngL_succ]
    refine ⟨trivial, rfl, take_call P (by omega) (by decide) (by decide) fun d1 M1 d10 d11 D1 => ⟨rfl, take_call D1.pot (by omega) (by omega) (by omega) fun d2 M2 d20 d21 D2 => ⟨mul_l (by omega) (by omega), (by decide : (4 : Nat) ≤ 16777216), rfl, of_call (xs := [.int d1, .int (f + (Int.lcm p.1 q.1 : Int) * d2), .int (f + 1), .int 0]) D2.pot (by omega) (fun z => by cases z) rfl (by simp) (by simp) fun u0 M3 hu D3 => ?_⟩⟩⟩
    obtain ⟨u, rfl, hu0⟩ : ∃ u : Int, u0 = .int u ∧ 0 ≤ u := by
      have : u0 = .int d1 ∨ u0 = .int (f + (Int.lcm p.1 q.1 : Int) * d2) ∨ u0 = .int (f + 1) ∨ u0 = .int 0 := by simpa using hu
      have m0 : 0 ≤ (Int.lcm p.1 q.1 : Int) * d2 := Int.mul_nonneg (by omega) d20
      rcases this with rfl | rfl | rfl | rfl
      · exact ⟨_, rfl, d10⟩
      · exact ⟨_, rfl, by omega⟩
      · exact ⟨_, rfl, by omega⟩
      · exact ⟨_, rfl, by decide⟩
    have ra3 := ra_drawn (ra_drawn (ra_drawn ra P D1) D1.pot D2) D2.pot D3
    refine rm_tail D3.pot ra3 j2 d hF f0 hu0 fun M4 y10 y16 P4 ra4 => ?_
    exact rm_loop (E := E) (x1 := x1) (x2 := x2) (x4 := x4) (x5 := x5) (x6 := x6) (x7 := x7) (x9 := x9) hC j2 d hF f0 f1 em hE k (lo + 1) M4 _ y10 _ _ y16 P4 ra4 (by omega)
end K11
set_option pp.deepTerms false
set_option pp.maxSteps 120
namespace K11
open PySem PySem.Spec AA TL
open L2 (FnScope defScope defBody)
open K10 (gcd_pos' gcd_turn lcm_eq dvd_of_mod pow_small put_math)
open K25 (Hit FirstK hit_ex hit_no gcd_dvds rest_step)
theorem isF_own {p : Int × Int} (hp : PairOk p) : IsF p p p.2 ∧ Div p p := by
  have l0 := lcm_pos hp hp
  refine ⟨⟨by unfold bg; omega, by unfold bg; omega, by rw [Int.sub_self]; rfl, by rw [Int.sub_self]; rfl⟩, ?_⟩
  unfold Div
  rw [Int.sub_self]
  rfl
theorem eqv_meet (i : Int) : PyData.eqv (.tuple [.str "meet", .int i]) (.tuple [.str "meet", .int i]) = true := by simp [PyData.eqv, PyData.eqvAll]
theorem shaped_meet (i : Int) : SeqAt.shaped (.tuple [.str "meet", .int i]) = true := by
  unfold SeqAt.shaped
  rw [Bool.and_eq_true]
  refine ⟨?_, ?_⟩
  · simp only [PyData.canLay0, PyData.canLayAll0, Bool.and_true]
    first
      | rfl
      | decide +kernel
  · exact decide_eq_true (by simp only [PyData.depth, PyData.depthAll]; omega)
/-- the job with itself -/
theorem r_own {Q : DK} {X : XD} {M : Mem} {n m : Nat} {c : Int} {kr : List (L2.Key × D)} {ns : List Str} {a b : Str} {p q : Int × Int} {x2 x4 x5 x6 x7 x9 x10 x11 x12 x13 x14 x15 x16 : Option D} (P : Pot M n c) (ra : RulesAt M m kr ns) (j2 : Jobs2 kr ns a b p q)
    (h : ∀ M', Pot M' n c → Q (.bl true) M') : wpSs (tab T58) (tailN 13 B_law_right) (dEnds Q X) [some (.ref n), some (Pair p), x2, some (.tup [.str a, .str b]), x4, x5, x6, x7, some (.ref m), x9, x10, x11, x12, x13, x14, x15, x16] M := by
  obtain ⟨ha, hb, va, vb, hp, hq⟩ := id j2
  obtain ⟨fo, dv⟩ := isF_own hp
  refine ⟨rfl, m, kr, ns, a, a, p, p, rfl, ra, ⟨ha, ha, va, va, hp, hp⟩, fun nd => absurd dv nd, fun _ f M2 hf S2 => ?_⟩
  have ef : f = p.2 := hf.same hp hp fo
  subst ef
  rw [if_pos hp.2.2.2]
  refine ⟨(by decide : (2 : Nat) ≤ 16777216), shaped_meet _, shaped_meet _, ?_⟩
  show Q (.bl (PyData.eqv (.tuple [.str "meet", .int p.2]) (.tuple [.str "meet", .int p.2]))) M2
  rw [eqv_meet]
  exact h M2 (P.keepS S2 (by simp))
theorem r_meet {Q : DK} {X : XD} {M : Mem} {n m : Nat} {c : Int} {kr : List (L2.Key × D)} {ns : List Str} {a b : Str} {p q : Int × Int} {f : Int} {x2 x4 x5 x6 x7 x11 x12 x13 x14 x15 x16 : Option D} (P : Pot M n c) (hc : c < 800000) (ra : RulesAt M m kr ns) (j2 : Jobs2 kr ns a b p q)
    (d : Div p q) (hF : IsF p q f) (f1 : f ≤ 210379679) (h : ∀ M', Pot M' n (c + 20) → Q (.bl true) M') :
    wpSs (tab T58) (tailN 6 B_law_right) (dEnds Q X) [some (.ref n), some (Pair p), x2, some (.tup [.str a, .str b]), x4, x5, x6, x7, some (.ref m), some (.tup [.int f, .int (Int.lcm p.1 q.1 : Int)]), some (meetD f), x11, x12, x13, x14, x15, x16] M := by
  obtain ⟨ha, hb, va, vb, hp, hq⟩ := id j2
  have f0 : 0 ≤ f := by
    have := hF.1
    have := hp.2.2.1
    unfold bg at *
    omega
  have l0 := lcm_pos hp hq
  have rd := Int.emod_add_mul_ediv (210379679 - f) (Int.lcm p.1 q.1 : Int)
  have q0 : 0 ≤ (210379679 - f) / (Int.lcm p.1 q.1 : Int) := Int.ediv_nonneg (by omega) (by omega)
  have q1 : (210379679 - f) / (Int.lcm p.1 q.1 : Int) ≤ 210379679 - f := Int.ediv_le_self _ (by omega)
  have ok := meet_ok f0 f1
  have t11 : ∀ M2, Stays [] M M2 → wpSs (tab T58) (tailN 11 B_law_right) (dEnds Q X) [some (.ref n), some (Pair p), x2, some (.tup [.str a, .str b]), x4, x5, x6, x7, some (.ref m), some (.tup [.int f, .int (Int.lcm p.1 q.1 : Int)]), some (meetD f), x11, some (.int f), some (.int (Int.lcm p.1 q.1 : Int)), some (.int ((210379679 - f) / (Int.lcm p.1 q.1 : Int) + 1)), x15, x16] M2 := by
    intro M2 S2
    refine ⟨rfl, m, kr, ns, a, b, p, q, rfl, ra.more0 S2, j2, fun nd => absurd d nd, fun _ g M3 hg S3 => ?_⟩
    have eg : g = f := hg.same hp hq hF
    subst eg
    have em : manyD p q g = (210379679 - g) / (Int.lcm p.1 q.1 : Int) + 1 := if_pos f1
    rw [em]
    have okm : ReprOk (.int ((210379679 - g) / (Int.lcm p.1 q.1 : Int) + 1)) := repr_int (big_of (by omega) (by omega)).1 (big_of (by omega) (by omega)).2
    refine ⟨okm, okm, ?_⟩
    refine iteF (c := (!decide (PyData.shown (.int ((210379679 - g) / (Int.lcm p.1 q.1 : Int) + 1)) = PyData.shown (.int ((210379679 - g) / (Int.lcm p.1 q.1 : Int) + 1)))) = true) (by rw [decide_eq_true rfl]; decide) ?_
    refine ⟨⟨by decide, by decide⟩, ?_⟩
    refine rm_loop (C := c + 15) (by omega) j2 d hF f0 f1 rfl (fun M4 y10 y11 y15 y16 P4 ra4 => ?_) 5 0 M3 c _ _ _ _ ((P.keepS S2 (by simp)).keepS S3 (by simp)) ((ra.more0 S2).more0 S3) (by omega)
    exact r_own P4 ra4 j2 fun M5 P5 => h M5 (P5.le (by omega))
  have t8 : ∀ M2, Stays [] M M2 → wpSs (tab T58) (tailN 8 B_law_right) (dEnds Q X) [some (.ref n), some (Pair p), x2, some (.tup [.str a, .str b]), x4, x5, x6, x7, some (.ref m), some (.tup [.int f, .int (Int.lcm p.1 q.1 : Int)]), some (meetD f), x11, x12, x13, x14, x15, x16] M2 := by
    intro M2 S2
    exact ⟨lcm_dok hp hq, t11 M2 S2⟩
  have t7 : ∀ M1, Stays [] M M1 → wpSs (tab T58) (tailN 7 B_law_right) (dEnds Q X) [some (.ref n), some (Pair p), x2, some (.tup [.str a, .str b]), x4, x5, x6, x7, some (.ref m), some (.tup [.int f, .int (Int.lcm p.1 q.1 : Int)]), some (meetD f), x11, x12, x13, x14, x15, x16] M1 := by
    intro M1 S1
    refine ⟨rfl, m, kr, ns, b, a, q, p, rfl, ra.more0 S1, j2.comm, fun nd => absurd (div_comm.mp d) nd, fun _ g M2 hg S2 => ?_⟩
    have eg : g = f := hg.comm.same hp hq hF
    subst eg
    rw [if_pos f1]
    refine ⟨ok, ok, ?_⟩
    exact iteF (c := (!decide (PyData.shown (.tuple [.str "meet", .int g]) = PyData.shown (.tuple [.str "meet", .int g]))) = true) (by rw [decide_eq_true rfl]; decide) (t8 M2 (S1.trans S2))
  refine ⟨rfl, m, kr, ns, a, b, p, q, rfl, ra, j2, fun nd => absurd d nd, fun _ g M2 hg S2 => ?_⟩
  have eg : g = f := hg.same hp hq hF
  subst eg
  rw [if_pos f1]
  refine ⟨ok, ok, ?_⟩
  exact iteF (c := (!decide (PyData.shown (.tuple [.str "meet", .int g]) = PyData.shown (.tuple [.str "meet", .int g]))) = true) (by rw [decide_eq_true rfl]; decide) (t7 M2 S2)
end K11
set_option pp.deepTerms false
set_option pp.maxSteps 120
namespace K11
open PySem PySem.Spec AA TL
open L2 (FnScope defScope defBody)
open K10 (gcd_pos' gcd_turn lcm_eq dvd_of_mod pow_small put_math)
open K25 (Hit FirstK hit_ex hit_no gcd_dvds rest_step)
def lineOf (a : Str) (p : Int × Int) : Line := .each a p.1.toNat p.2.toNat
theorem lineOf_ok {a : Str} {p : Int × Int} (ha : NameOk a) (hp : PairOk p) : (lineOf a p).ok := by
  obtain ⟨p1, p2, p3, p4⟩ := hp
  exact ⟨ha, by omega, by omega, by omega⟩
theorem lineOf_rule {a : Str} {p : Int × Int} (hp : PairOk p) : (lineOf a p).rule = eachD p := by
  obtain ⟨p1, p2, p3, p4⟩ := hp
  show D.tup [.str "each", .int ((p.1.toNat : Nat) : Int), .int ((p.2.toNat : Nat) : Int)] = eachD p
  rw [show ((p.1.toNat : Nat) : Int) = p.1 by omega, show ((p.2.toNat : Nat) : Int) = p.2 by omega]
  rfl
theorem line_eq {a : Str} {p : Int × Int} (hp : PairOk p) : Txt.join " " [("job" : Str), a, "each", Str.ofString (toString p.1), "from", Str.ofString (toString p.2)] = lineS (lineOf a p).words := by
  obtain ⟨p1, p2, p3, p4⟩ := hp
  rw [join_eq, toStr_numS (by omega), toStr_numS p3]
  rfl
theorem line_ne {a b : Str} {p q : Int × Int} (ha : NameOk a) (hb : NameOk b) (hp : PairOk p) (hq : PairOk q) (ne : a ≠ b) : lineS (lineOf a p).words ≠ lineS (lineOf b q).words := fun z => by
  have e1 := split_words (lineOf_ok ha hp)
  have e2 := split_words (lineOf_ok hb hq)
  rw [z, e2] at e1
  have : (lineOf b q).words[1]? = (lineOf a p).words[1]? := by rw [e1]
  exact ne (by simpa [lineOf, Line.words] using this.symm)
theorem lg_ok {i : Int} (h0 : 0 ≤ i) (h1 : i ≤ 1000000000) : i.natAbs.log2 < 1920 := by
  have : i.natAbs.log2 < 100 := log2_lt (k := 100) (Nat.lt_of_lt_of_le (show i.natAbs < 10 ^ 10 by omega) (by decide)) (by decide)
  omega
def lnB : Ss := match B_law_right with | .cons _ (.cons _ (.cons _ (.cons (.for_ _ _ b) _))) => b | _ => .nil
theorem ln_step {E : DE} {M : Mem} {g : Nat} {xs : List D} {a : Str} {p : Int × Int} {x0 x1 x2 x3 x8 x9 x10 x11 x12 x13 x14 x15 x16 : Option D} (ha : NameOk a) (hp : PairOk p) (hg : M[g]? = some (.lst xs)) (xl : xs.length ≤ 10)
    (h : E.nx [x0, x1, x2, x3, some (.ref g), some (.str a), some (.int p.1), some (.int p.2), x8, x9, x10, x11, x12, x13, x14, x15, x16] (M.set g (.lst (xs ++ [.str (lineS (lineOf a p).words)])))) :
    wpSs (tab T58) lnB E [x0, x1, x2, x3, some (.ref g), some (.str a), some (.int p.1), some (.int p.2), x8, x9, x10, x11, x12, x13, x14, x15, x16] M := by
  obtain ⟨p1, p2, p3, p4⟩ := id hp
  have la := ha.len
  have l1 : (Str.ofString (toString p.1)).length ≤ 9 := by rw [toStr_numS (by omega)]; exact numS_len (by omega)
  have l2 : (Str.ofString (toString p.2)).length ≤ 9 := by rw [toStr_numS p3]; exact numS_len (by omega)
  have k1 : ("job" : Str).length = 3 := by decide +kernel
  have k2 : ("each" : Str).length = 4 := by decide +kernel
  have k3 : ("from" : Str).length = 4 := by decide +kernel
  have k4 : (" " : Str).length = 1 := by decide +kernel
  have le := line_eq (a := a) hp
  conv => whnf
  rw [hg]
  refine ⟨lg_ok (by omega) (by omega), lg_ok (by omega) (by omega), (by decide : (6 : Nat) ≤ 16777216), ?_⟩
  refine ⟨by simp only [List.map_cons, List.map_nil, List.sum_cons, List.sum_nil, List.length_cons, List.length_nil, k1, k2, k3, k4]; omega, ?_⟩
  conv => whnf
  rw [hg]
  refine ⟨by omega, ?_⟩
  rw [← le] at h
  exact h
theorem two_perm {A : Type} {ts : List A} {x y : A} (tl : ts.length = 2) (nd : ts.Nodup) (h : ∀ t ∈ ts, t ∈ [x, y]) : ts = [x, y] ∨ ts = [y, x] := by
  match ts, tl with
  | [u, v], _ =>
    have hu := h u (by simp)
    have hv := h v (by simp)
    have ne : u ≠ v := by simpa using nd
    simp only [List.mem_cons, List.not_mem_nil, or_false] at hu hv
    rcases hu with rfl | rfl <;> rcases hv with rfl | rfl
    · exact absurd rfl ne
    · exact .inl rfl
    · exact .inr rfl
    · exact absurd rfl ne
/-- what is due, then asked -/
theorem r_due {Q : DK} {X : XD} {M : Mem} {n m : Nat} {c : Int} {kr : List (L2.Key × D)} {ns : List Str} {a b : Str} {p q : Int × Int} {x4 x5 x6 x7 : Option D} {v : D} (P : Pot M n c) (hc : c < 700000) (ra : RulesAt M m kr ns) (j2 : Jobs2 kr ns a b p q)
    (hv : (¬ Div p q ∧ v = .non) ∨ (Div p q ∧ ∃ f, IsF p q f ∧ v = metD p q f)) (h : ∀ M', Pot M' n (c + 20) → Q (.bl true) M') :
    wpSs (tab T58) (tailN 5 B_law_right) (dEnds Q X) [some (.ref n), some (Pair p), some (Pair q), some (.tup [.str a, .str b]), x4, x5, x6, x7, some (.ref m), some v, none, none, none, none, none, none, none] M := by
  obtain ⟨ha, hb, va, vb, hp, hq⟩ := id j2
  rcases hv with ⟨nd, rfl⟩ | ⟨d, f, hF, rfl⟩
  · have t := r_apart (Q := Q) (X := X) (x1 := some (Pair p)) (x2 := some (Pair q)) (x4 := x4) (x5 := x5) (x6 := x6) (x7 := x7) (x9 := some .non) (x12 := none) (x13 := none) (x14 := none) (x15 := none) (x16 := none) P (by omega) ra j2 (fun f hf => absurd (bo_div hf.2.2) nd) fun M' P' => h M' (P'.le (by omega))
    rw [show apartD p q = .tup [.str "apart", .str "rests"] by unfold apartD; rw [if_neg nd]] at t
    exact ⟨(by decide : (2 : Nat) ≤ 16777216), t⟩
  · by_cases z : f ≤ 210379679
    · rw [show metD p q f = .tup [.int f, .int (Int.lcm p.1 q.1 : Int)] from if_pos z]
      refine ⟨(by decide : (2 : Nat) ≤ 16777216), ?_⟩
      exact r_meet P (by omega) ra j2 d hF z h
    · rw [show metD p q f = .tup [.non, .int 0] from if_neg z]
      have t := r_apart (Q := Q) (X := X) (x1 := some (Pair p)) (x2 := some (Pair q)) (x4 := x4) (x5 := x5) (x6 := x6) (x7 := x7) (x9 := some (.tup [.non, .int 0])) (x12 := none) (x13 := none) (x14 := none) (x15 := none) (x16 := none) P (by omega) ra j2 (fun g hg => by rw [hg.same hp hq hF]; omega) fun M' P' => h M' (P'.le (by omega))
      rw [show apartD p q = .tup [.str "apart", .str "late"] by unfold apartD; rw [if_pos d]] at t
      exact ⟨(by decide : (2 : Nat) ≤ 16777216), t⟩
theorem ok_law_right : ∀ ds M Q X, ds.length = F_law_right.par.length → F_law_right.sp ds M Q X → wpSs (tab T58) B_law_right (dEnds Q X) (dstart N_law_right ds) M := by
  intro ds M Q X hl h
  obtain ⟨n, c, rfl, P, hc, h⟩ := h
  refine ⟨rfl, n, c, rfl, P, by omega, fun p q M1 hp hq S1 P1 => ?_⟩
  refine ⟨rfl, n, c + 20, rfl, P1, by omega, fun a b M2 ha hb ne S2 P2 => ?_⟩
  have nl2 := P2.lt
  have kj : ("\n" : Str).length = 1 := by decide +kernel
  refine ⟨(by decide : (0 : Nat) ≤ 16777216), (by decide : (2 : Nat) ≤ 16777216), (fun _ => rfl), ⟨rfl, rfl⟩, ?_⟩
  have P3 : Pot (M2 ++ [MO.lst []]) n (c + 80) := (P2.keepS (S := []) ((Stays.refl [] M2).app _) (by simp)).le (by omega)
  refine ln_step ha hp (last_get M2 _) (by simp) ⟨⟨rfl, rfl⟩, ?_⟩
  have e3 : ((M2 ++ [MO.lst []]).set M2.length (.lst ([] ++ [.str (lineS (lineOf a p).words)])))[M2.length]? = some (.lst ([] ++ [.str (lineS (lineOf a p).words)])) := set_get (last_get M2 _)
  refine ln_step hb hq e3 (by simp) ⟨⟨rfl, rfl⟩, ?_⟩
  have e4 : (((M2 ++ [MO.lst []]).set M2.length (.lst ([] ++ [.str (lineS (lineOf a p).words)]))).set M2.length (.lst ([] ++ [.str (lineS (lineOf a p).words)] ++ [.str (lineS (lineOf b q).words)])))[M2.length]? = some (.lst ([lineS (lineOf a p).words, lineS (lineOf b q).words].map D.str)) := set_get e3
  have P4 : Pot (((M2 ++ [MO.lst []]).set M2.length (.lst ([] ++ [.str (lineS (lineOf a p).words)]))).set M2.length (.lst ([] ++ [.str (lineS (lineOf a p).words)] ++ [.str (lineS (lineOf b q).words)]))) n (c + 80) := by
    obtain ⟨o, s, t, q1, q2⟩ := P3
    exact ⟨o, s, t, by rw [List.getElem?_set_ne (by omega), List.getElem?_set_ne (by omega)]; exact q1, q2⟩
  refine ⟨rfl, n, c + 80, .ref M2.length, [lineS (lineOf a p).words, lineS (lineOf b q).words], 2, rfl, (fun z => by cases z; omega), seqD_ref e4, P4, by omega, Nat.le_refl 2, (by decide : (2 : Nat) ≤ 1000), by simp [line_ne ha hb hp hq ne], fun ts M5 f tl tn tm S5 P5 hf e5 => ?_⟩
  have pa := lineOf_ok ha hp
  have pb := lineOf_ok hb hq
  obtain ⟨ls, els, hls⟩ : ∃ ls : List Line, ts = ls.map (fun l => lineS l.words) ∧ (ls = [lineOf a p, lineOf b q] ∨ ls = [lineOf b q, lineOf a p]) := by
    rcases two_perm tl tn tm with rfl | rfl
    · exact ⟨[lineOf a p, lineOf b q], rfl, .inl rfl⟩
    · exact ⟨[lineOf b q, lineOf a p], rfl, .inr rfl⟩
  have l2 : ls.length = 2 := by rcases hls with rfl | rfl <;> rfl
  have lok : ∀ l ∈ ls, l.ok := fun l hl => by
    rcases hls with rfl | rfl <;> (simp only [List.mem_cons, List.not_mem_nil, or_false] at hl; rcases hl with rfl | rfl <;> assumption)
  have lnd : (ls.map Line.name).Nodup := by
    rcases hls with rfl | rfl
    · show [a, b].Nodup; simp [ne]
    · show [b, a].Nodup; simp [Ne.symm ne]
  have ma : lineOf a p ∈ ls := by rcases hls with rfl | rfl <;> simp
  have mb : lineOf b q ∈ ls := by rcases hls with rfl | rfl <;> simp
  have tj : Txt.join "\n" ts = textOf ls := by rw [els, join_eq]; rfl
  have short : ∀ t ∈ ts, t.length ≤ 80 := fun t ht => by
    rw [els] at ht
    obtain ⟨l, hl, rfl⟩ := List.mem_map.mp ht
    exact line_short (lok l hl)
  conv => whnf
  rw [seqD_ref e5]
  conv => whnf
  rw [strsD_map]
  refine ⟨?_, ?_⟩
  · match ts, tl, short with
    | [u, v], _, short =>
      have := short u (by simp)
      have := short v (by simp)
      simp only [List.map_cons, List.map_nil, List.sum_cons, List.sum_nil, List.length_cons, List.length_nil, kj]
      omega
  rw [tj]
  have nl5 := P5.lt
  refine ⟨rfl, M5.length, ls, rfl, last_get M5 _, (fun z => by rw [z] at l2; cases l2), by omega, lok, lnd, fun M6 S6 ra => ⟨rfl, ?_⟩⟩
  have P6 : Pot M6 n (c + 80 + (2 : Nat)) := by
    obtain ⟨o, s, t, q1, q2⟩ := P5
    exact ⟨o, s, t, S6.get (by rw [List.getElem?_append_left nl5]; exact q1) (by rw [List.mem_singleton]; omega), q2⟩
  have j2 : Jobs2 (rulesOf ls) (ls.map Line.name) a b p q := by
    have va := val_of lnd ma
    have vb := val_of lnd mb
    rw [lineOf_rule hp] at va
    rw [lineOf_rule hq] at vb
    exact ⟨List.mem_map.mpr ⟨_, ma, rfl⟩, List.mem_map.mpr ⟨_, mb, rfl⟩, va, vb, hp, hq⟩
  refine ⟨rfl, p, q, rfl, hp, hq, fun nd => ?_, fun d f hF => ?_⟩
  · exact r_due P6 (by omega) ra j2 (.inl ⟨nd, rfl⟩) fun M' P' => h M' (P'.le (by omega))
  · exact r_due (v := metD p q f) P6 (by omega) ra j2 (.inr ⟨d, f, hF, rfl⟩) fun M' P' => h M' (P'.le (by omega))
/-! ### the law -/
def lawE1 : E := .call 58 (.cons (.var 2) .nil)
theorem law_c1 {Q : List D → Mem → Prop} {a b : Option D} {m : Nat} : ∀ (n : Nat) (lo : Int) (acc : List D) (j : Nat) (M : Mem) (c : Int), Pot M m c → c + 200 * n < 500000 → acc = List.replicate j (.bl true) → j + n ≤ 20 → (∀ M' , Q (List.replicate (j + n) (.bl true)) M') →
    compD (bindT (.nm 3)) (wpC (tab T59) .no) (wpE (tab T59) lawE1) (fun _ => True) [a, b, some (.ref m), none] Q (rngL lo n) acc M
  | 0, lo, acc, j, M, c, hp, hc, e, hl, h => by
    subst e
    exact ⟨trivial, h M⟩
  | n + 1, lo, acc, j, M, c, hp, hc, e, hl, h => by
    rw [rngL_succ]
    refine ⟨trivial, rfl, m, c, rfl, hp, by omega, fun M' hp' => ?_⟩
    refine ⟨by rw [e, List.length_replicate]; omega, ?_⟩
    refine law_c1 n (lo + 1) _ (j + 1) M' (c + 200) hp' (by omega) (by rw [e, List.replicate_succ']) (by omega) fun M2 => ?_
    rw [show j + 1 + n = j + (n + 1) by omega]
    exact h M2
def lawB : Ss := match Blaw with | .cons (.for_ _ _ b) _ => b | _ => .nil
theorem law_loop {E : DE} {ns : List Int} {k : Nat} (hE : ∀ M a b, E.nx [some (.lst (ns.map D.int)), a, b, none] M) : ∀ (n lo : Nat) (M : Mem) (a b : Option D), lo + n ≤ 2 →
    forD (bindT (.nm 1)) (wpSs (tab T59) lawB) (stayD (.lst (rngL 0 k)) (rngL 0 k)) E (rngL lo n) [some (.lst (ns.map D.int)), a, b, none] M
  | 0, lo, M, a, b, h => ⟨rfl, hE M a b⟩
  | n + 1, lo, M, a, b, h => by
    rw [rngL_succ]
    refine ⟨rfl, rfl, ns, lo, rfl, by omega, fun own small s0 s1 => ?_⟩
    have hp : Pot (M ++ [potL own small 0]) M.length 0 := ⟨own, small, 0, last_get M _, by decide, by decide, s0, s1⟩
    refine ⟨⟨by decide, by decide⟩, ?_⟩
    refine law_c1 8 0 [] 0 _ 0 hp (by decide) rfl (by decide) fun M2 => ?_
    have next := law_loop (E := E) (ns := ns) (k := k) hE n (lo + 1) M2 (some (.int lo)) (some (.ref M.length)) (by omega)
    rw [show ((lo + 1 : Nat) : Int) = (lo : Int) + 1 by omega] at next
    exact next
theorem oklaw : ∀ ds M Q X, ds.length = Flaw.par.length → Flaw.sp ds M Q X → wpSs (tab T59) Blaw (dEnds Q X) (dstart Nlaw ds) M := by
  intro ds M Q X hl h
  obtain ⟨ns, hn, rfl, h⟩ := h
  refine ⟨rfl, ns, hn, rfl, fun k hk => ?_⟩
  exact law_loop (k := k) (fun M a b => h M) k 0 M none none (by omega)
theorem law_sp (ns : List Int) (hl : ns.length ≤ 63) : Flaw.sp [.lst (ns.map D.int)] [] (fun d _ => d = .bl true) (fun _ _ _ => False) := ⟨ns, hl, rfl, fun _ => rfl⟩
end K11
namespace K11
open PySem PySem.Spec AA
open L2 (FnScope defScope defBody)
open K10 (gcd_pos' gcd_turn dvd_of_mod)
def inner : Stmt → Stmt
  | .ClassDef _ _ _ (b :: _) _ _ _ _ _ _ _ => b
  | s => s
theorem top_super : (pw.main.scope.names.lookup ("super" : Str)).isSome = false := by decide +kernel
theorem all_mk {w : World} {K : PySem.W.Frag} {h : Heap} {mg : Str → Option Value} {fa : Addr} {q : Program} (X : K.In h) (G : h.Ns mainGlobals mg) (TT : ∀ (x : Str) (c P : Addr), PySem.W.tabIn K x = some (c, P) → ((PyProof.Rows.recsOf q).any fun e => e.name == x) = true → PySem.W.CodeHd h c P ∧ h.get? P = some (PySem.W.tabObj #[])) (hfa : mg "law" = some (.ref fa))
    {I0 : Addr}
    {I1 : Addr}
    {I2 : Addr}
    {f0 : Addr} {od0 an0 : Option Addr} {sl0 : Array (Option Value)} {oc0 kV0 dc0 pm0 cd0 ct0 : Value}
    {f1 : Addr} {od1 an1 : Option Addr} {sl1 : Array (Option Value)} {oc1 kV1 dc1 pm1 cd1 ct1 : Value}
    {f2 : Addr} {od2 an2 : Option Addr} {sl2 : Array (Option Value)} {oc2 kV2 dc2 pm2 cd2 ct2 : Value}
    {f3 : Addr} {od3 an3 : Option Addr} {sl3 : Array (Option Value)} {oc3 kV3 dc3 pm3 cd3 ct3 : Value}
    {f4 : Addr} {od4 an4 : Option Addr} {sl4 : Array (Option Value)} {oc4 kV4 dc4 pm4 cd4 ct4 : Value}
    {f5 : Addr} {od5 an5 : Option Addr} {sl5 : Array (Option Value)} {oc5 kV5 dc5 pm5 cd5 ct5 : Value}
    {f6 : Addr} {od6 an6 : Option Addr} {sl6 : Array (Option Value)} {oc6 kV6 dc6 pm6 cd6 ct6 : Value}
    {f7 : Addr} {od7 an7 : Option Addr} {sl7 : Array (Option Value)} {oc7 kV7 dc7 pm7 cd7 ct7 : Value}
    {f8 : Addr} {od8 an8 : Option Addr} {sl8 : Array (Option Value)} {oc8 kV8 dc8 pm8 cd8 ct8 : Value}
    {f9 : Addr} {od9 an9 : Option Addr} {sl9 : Array (Option Value)} {oc9 kV9 dc9 pm9 cd9 ct9 : Value}
    {f10 : Addr} {od10 an10 : Option Addr} {sl10 : Array (Option Value)} {oc10 kV10 dc10 pm10 cd10 ct10 : Value}
    {f11 : Addr} {od11 an11 : Option Addr} {sl11 : Array (Option Value)} {oc11 kV11 dc11 pm11 cd11 ct11 : Value}
    {f12 : Addr} {od12 an12 : Option Addr} {sl12 : Array (Option Value)} {oc12 kV12 dc12 pm12 cd12 ct12 : Value}
    {f13 : Addr} {od13 an13 : Option Addr} {sl13 : Array (Option Value)} {oc13 kV13 dc13 pm13 cd13 ct13 : Value}
    {f14 : Addr} {od14 an14 : Option Addr} {sl14 : Array (Option Value)} {oc14 kV14 dc14 pm14 cd14 ct14 : Value}
    {f15 : Addr} {od15 an15 : Option Addr} {sl15 : Array (Option Value)} {oc15 kV15 dc15 pm15 cd15 ct15 : Value}
    {f16 : Addr} {od16 an16 : Option Addr} {sl16 : Array (Option Value)} {oc16 kV16 dc16 pm16 cd16 ct16 : Value}
    {pp16 : Addr} {pr16 : List Value}
    {f17 : Addr} {od17 an17 : Option Addr} {sl17 : Array (Option Value)} {oc17 kV17 dc17 pm17 cd17 ct17 : Value}
    {f18 : Addr} {od18 an18 : Option Addr} {sl18 : Array (Option Value)} {oc18 kV18 dc18 pm18 cd18 ct18 : Value}
    {f19 : Addr} {od19 an19 : Option Addr} {sl19 : Array (Option Value)} {oc19 kV19 dc19 pm19 cd19 ct19 : Value}
    {f20 : Addr} {od20 an20 : Option Addr} {sl20 : Array (Option Value)} {oc20 kV20 dc20 pm20 cd20 ct20 : Value}
    {f21 : Addr} {od21 an21 : Option Addr} {sl21 : Array (Option Value)} {oc21 kV21 dc21 pm21 cd21 ct21 : Value}
    {f22 : Addr} {od22 an22 : Option Addr} {sl22 : Array (Option Value)} {oc22 kV22 dc22 pm22 cd22 ct22 : Value}
    {f23 : Addr} {od23 an23 : Option Addr} {sl23 : Array (Option Value)} {oc23 kV23 dc23 pm23 cd23 ct23 : Value}
    {f24 : Addr} {od24 an24 : Option Addr} {sl24 : Array (Option Value)} {oc24 kV24 dc24 pm24 cd24 ct24 : Value}
    {f25 : Addr} {od25 an25 : Option Addr} {sl25 : Array (Option Value)} {oc25 kV25 dc25 pm25 cd25 ct25 : Value}
    {f26 : Addr} {od26 an26 : Option Addr} {sl26 : Array (Option Value)} {oc26 kV26 dc26 pm26 cd26 ct26 : Value}
    {f27 : Addr} {od27 an27 : Option Addr} {sl27 : Array (Option Value)} {oc27 kV27 dc27 pm27 cd27 ct27 : Value}
    {f28 : Addr} {od28 an28 : Option Addr} {sl28 : Array (Option Value)} {oc28 kV28 dc28 pm28 cd28 ct28 : Value}
    {f29 : Addr} {od29 an29 : Option Addr} {sl29 : Array (Option Value)} {oc29 kV29 dc29 pm29 cd29 ct29 : Value}
    {f30 : Addr} {od30 an30 : Option Addr} {sl30 : Array (Option Value)} {oc30 kV30 dc30 pm30 cd30 ct30 : Value}
    {f31 : Addr} {od31 an31 : Option Addr} {sl31 : Array (Option Value)} {oc31 kV31 dc31 pm31 cd31 ct31 : Value}
    {f32 : Addr} {od32 an32 : Option Addr} {sl32 : Array (Option Value)} {oc32 kV32 dc32 pm32 cd32 ct32 : Value}
    {f33 : Addr} {od33 an33 : Option Addr} {sl33 : Array (Option Value)} {oc33 kV33 dc33 pm33 cd33 ct33 : Value}
    {f34 : Addr} {od34 an34 : Option Addr} {sl34 : Array (Option Value)} {oc34 kV34 dc34 pm34 cd34 ct34 : Value}
    {f35 : Addr} {od35 an35 : Option Addr} {sl35 : Array (Option Value)} {oc35 kV35 dc35 pm35 cd35 ct35 : Value}
    {f36 : Addr} {od36 an36 : Option Addr} {sl36 : Array (Option Value)} {oc36 kV36 dc36 pm36 cd36 ct36 : Value}
    {f37 : Addr} {od37 an37 : Option Addr} {sl37 : Array (Option Value)} {oc37 kV37 dc37 pm37 cd37 ct37 : Value}
    {f38 : Addr} {od38 an38 : Option Addr} {sl38 : Array (Option Value)} {oc38 kV38 dc38 pm38 cd38 ct38 : Value}
    {f39 : Addr} {od39 an39 : Option Addr} {sl39 : Array (Option Value)} {oc39 kV39 dc39 pm39 cd39 ct39 : Value}
    {f40 : Addr} {od40 an40 : Option Addr} {sl40 : Array (Option Value)} {oc40 kV40 dc40 pm40 cd40 ct40 : Value}
    {f41 : Addr} {od41 an41 : Option Addr} {sl41 : Array (Option Value)} {oc41 kV41 dc41 pm41 cd41 ct41 : Value}
    {f42 : Addr} {od42 an42 : Option Addr} {sl42 : Array (Option Value)} {oc42 kV42 dc42 pm42 cd42 ct42 : Value}
    {f43 : Addr} {od43 an43 : Option Addr} {sl43 : Array (Option Value)} {oc43 kV43 dc43 pm43 cd43 ct43 : Value}
    {f44 : Addr} {od44 an44 : Option Addr} {sl44 : Array (Option Value)} {oc44 kV44 dc44 pm44 cd44 ct44 : Value}
    {f45 : Addr} {od45 an45 : Option Addr} {sl45 : Array (Option Value)} {oc45 kV45 dc45 pm45 cd45 ct45 : Value}
    {f46 : Addr} {od46 an46 : Option Addr} {sl46 : Array (Option Value)} {oc46 kV46 dc46 pm46 cd46 ct46 : Value}
    {f47 : Addr} {od47 an47 : Option Addr} {sl47 : Array (Option Value)} {oc47 kV47 dc47 pm47 cd47 ct47 : Value}
    {f48 : Addr} {od48 an48 : Option Addr} {sl48 : Array (Option Value)} {oc48 kV48 dc48 pm48 cd48 ct48 : Value}
    {f49 : Addr} {od49 an49 : Option Addr} {sl49 : Array (Option Value)} {oc49 kV49 dc49 pm49 cd49 ct49 : Value}
    {f50 : Addr} {od50 an50 : Option Addr} {sl50 : Array (Option Value)} {oc50 kV50 dc50 pm50 cd50 ct50 : Value}
    {f51 : Addr} {od51 an51 : Option Addr} {sl51 : Array (Option Value)} {oc51 kV51 dc51 pm51 cd51 ct51 : Value}
    {f52 : Addr} {od52 an52 : Option Addr} {sl52 : Array (Option Value)} {oc52 kV52 dc52 pm52 cd52 ct52 : Value}
    {f53 : Addr} {od53 an53 : Option Addr} {sl53 : Array (Option Value)} {oc53 kV53 dc53 pm53 cd53 ct53 : Value}
    {f54 : Addr} {od54 an54 : Option Addr} {sl54 : Array (Option Value)} {oc54 kV54 dc54 pm54 cd54 ct54 : Value}
    {f55 : Addr} {od55 an55 : Option Addr} {sl55 : Array (Option Value)} {oc55 kV55 dc55 pm55 cd55 ct55 : Value}
    {f56 : Addr} {od56 an56 : Option Addr} {sl56 : Array (Option Value)} {oc56 kV56 dc56 pm56 cd56 ct56 : Value}
    {f57 : Addr} {od57 an57 : Option Addr} {sl57 : Array (Option Value)} {oc57 kV57 dc57 pm57 cd57 ct57 : Value}
    {f58 : Addr} {od58 an58 : Option Addr} {sl58 : Array (Option Value)} {oc58 kV58 dc58 pm58 cd58 ct58 : Value}
    {f59 : Addr} {od59 an59 : Option Addr} {sl59 : Array (Option Value)} {oc59 kV59 dc59 pm59 cd59 ct59 : Value}
    {t0 : Tok}
    {t1 : Tok}
    {t2 : Tok}
    {t3 : Tok}
    {t4 : Tok}
    {t5 : Tok}
    {t6 : Tok}
    {t7 : Tok}
    {t8 : Tok}
    {t9 : Addr} {ti9 : Array Value} {tn9 : Nat} {td9 : Option Addr} {ts9 : Array (Option Value)}
    {t10 : Tok}
    {t11 : Tok}
    {t12 : Tok}
    {t13 : Tok}
    {t14 : Tok}
    {t15 : Tok}
    {t16 : Tok}
    {t17 : Tok}
    {t18 : Tok}
    {t19 : Tok}
    {t20 : Addr} {ti20 : Array Value} {tn20 : Nat} {td20 : Option Addr} {ts20 : Array (Option Value)}
    {tu20_0 tu20_1 tu20_2 tu20_3 tu20_4 : Addr}
    {ti20_0 : Array Value} {tn20_0 : Nat} {td20_0 : Option Addr} {ts20_0 : Array (Option Value)}
    {ti20_1 : Array Value} {tn20_1 : Nat} {td20_1 : Option Addr} {ts20_1 : Array (Option Value)}
    {ti20_2 : Array Value} {tn20_2 : Nat} {td20_2 : Option Addr} {ts20_2 : Array (Option Value)}
    {ti20_3 : Array Value} {tn20_3 : Nat} {td20_3 : Option Addr} {ts20_3 : Array (Option Value)}
    {ti20_4 : Array Value} {tn20_4 : Nat} {td20_4 : Option Addr} {ts20_4 : Array (Option Value)}
    {t21 : Tok}
    {t22 : Tok}
    {t23 : Tok}
    {t24 : Tok}
    {t25 : Tok}
    {t26 : Tok}
    {C0 C1 C2 C3 C4 fI cc cda : Addr}
    {nm0 qn0 : Str} {ns0 : Addr} {bs0 su0 : List Value} {sn0 : List Str} {ab0 : Bool} {co0 : Option Bool} {dd0 : Option Addr} {u00 u01 u02 u03 u05 : Option Value}
    {nm1 qn1 : Str} {ns1 : Addr} {bs1 su1 : List Value} {sn1 : List Str} {ab1 : Bool} {co1 : Option Bool} {dd1 : Option Addr} {u10 u11 u12 u13 u15 : Option Value}
    {nm2 qn2 : Str} {ns2 : Addr} {bs2 su2 : List Value} {sn2 : List Str} {ab2 : Bool} {co2 : Option Bool} {dd2 : Option Addr} {u20 u21 u22 u23 u25 : Option Value}
    {nm3 qn3 : Str} {ns3 : Addr} {bs3 su3 : List Value} {sn3 : List Str} {ab3 : Bool} {co3 : Option Bool} {dd3 : Option Addr} {u30 u31 u32 u33 u35 : Option Value}
    {nm4 qn4 : Str} {ns4 : Addr} {bs4 su4 : List Value} {sn4 : List Str} {ab4 : Bool} {co4 : Option Bool} {dd4 : Option Addr} {u40 u41 u42 u43 u45 : Option Value}
    {jo jd jm jt : Value} {jp ja : Option Addr} {js jz : Array (Option Value)} {jv : Array Value} {jc : Value} {je : Option Addr} {jf : Str} {jk : Tok} {jl : Value} {jg : Option Addr} {jh : Array (Option Value)}
    (v0a : PySem.W.nsIn K mainGlobals "RuleReader" = some (some (.ref I0)))
    (v0pg : PySem.W.plainGet K I0 Str.empty = true)
    (v0hd : PySem.W.hasDictIn K I0 = true)
    (v0po : PySem.W.plainOver K I0 = true)
    (v0sa : PySem.W.findIn K (.ref I0) "__setattr__" = some (some (.builtin "object.__setattr__")))
    (v0mk : PySem.W.makesIn K I0 = true)
    (v0kp : PySem.W.keepIn K (.ref I0) = true)
    (v0ks : PySem.W.kitOne K (.ref I0) (.ref I0) = some true)
    (v0cc : PySem.W.findIn K (.ref I0) "__class__" = some (some (.builtin "object.__class__")))
    (v0mo : PySem.W.mroIn K I0 (.type "object") = some true)
    (v0P0 : PySem.W.kitOne K (.type "NoneType") (.ref I0) = some false)
    (v0P1 : PySem.W.kitOne K (.type "bool") (.ref I0) = some false)
    (v0P2 : PySem.W.kitOne K (.type "int") (.ref I0) = some false)
    (v0P3 : PySem.W.kitOne K (.type "str") (.ref I0) = some false)
    (v0P4 : PySem.W.kitOne K (.type "tuple") (.ref I0) = some false)
    (v0P5 : PySem.W.kitOne K (.type "list") (.ref I0) = some false)
    (v0P6 : PySem.W.kitOne K (.type "dict") (.ref I0) = some false)
    (v0N0 : PySem.W.findIn K (.ref I0) "own_rules" = some none)
    (v0N1 : PySem.W.findIn K (.ref I0) "own_stars" = some none)
    (v0N2 : PySem.W.findIn K (.ref I0) "own_takes" = some none)
    (v1a : PySem.W.nsIn K mainGlobals "Rules" = some (some (.ref I1)))
    (v1pg : PySem.W.plainGet K I1 Str.empty = true)
    (v1hd : PySem.W.hasDictIn K I1 = true)
    (v1po : PySem.W.plainOver K I1 = true)
    (v1sa : PySem.W.findIn K (.ref I1) "__setattr__" = some (some (.builtin "object.__setattr__")))
    (v1mk : PySem.W.makesIn K I1 = true)
    (v1kp : PySem.W.keepIn K (.ref I1) = true)
    (v1ks : PySem.W.kitOne K (.ref I1) (.ref I1) = some true)
    (v1cc : PySem.W.findIn K (.ref I1) "__class__" = some (some (.builtin "object.__class__")))
    (v1mo : PySem.W.mroIn K I1 (.type "object") = some true)
    (v1P0 : PySem.W.kitOne K (.type "NoneType") (.ref I1) = some false)
    (v1P1 : PySem.W.kitOne K (.type "bool") (.ref I1) = some false)
    (v1P2 : PySem.W.kitOne K (.type "int") (.ref I1) = some false)
    (v1P3 : PySem.W.kitOne K (.type "str") (.ref I1) = some false)
    (v1P4 : PySem.W.kitOne K (.type "tuple") (.ref I1) = some false)
    (v1P5 : PySem.W.kitOne K (.type "list") (.ref I1) = some false)
    (v1P6 : PySem.W.kitOne K (.type "dict") (.ref I1) = some false)
    (v1N3 : PySem.W.findIn K (.ref I1) "own_text" = some none)
    (v1N4 : PySem.W.findIn K (.ref I1) "own_jobs" = some none)
    (v1N5 : PySem.W.findIn K (.ref I1) "own_rules" = some none)
    (v1N6 : PySem.W.findIn K (.ref I1) "own_stars" = some none)
    (v1N7 : PySem.W.findIn K (.ref I1) "own_takes" = some none)
    (v2a : PySem.W.nsIn K mainGlobals "Meeting" = some (some (.ref I2)))
    (v2pg : PySem.W.plainGet K I2 Str.empty = true)
    (v2hd : PySem.W.hasDictIn K I2 = true)
    (v2po : PySem.W.plainOver K I2 = true)
    (v2sa : PySem.W.findIn K (.ref I2) "__setattr__" = some (some (.builtin "object.__setattr__")))
    (v2mk : PySem.W.makesIn K I2 = true)
    (v2kp : PySem.W.keepIn K (.ref I2) = true)
    (v2ks : PySem.W.kitOne K (.ref I2) (.ref I2) = some true)
    (v2cc : PySem.W.findIn K (.ref I2) "__class__" = some (some (.builtin "object.__class__")))
    (v2mo : PySem.W.mroIn K I2 (.type "object") = some true)
    (v2P0 : PySem.W.kitOne K (.type "NoneType") (.ref I2) = some false)
    (v2P1 : PySem.W.kitOne K (.type "bool") (.ref I2) = some false)
    (v2P2 : PySem.W.kitOne K (.type "int") (.ref I2) = some false)
    (v2P3 : PySem.W.kitOne K (.type "str") (.ref I2) = some false)
    (v2P4 : PySem.W.kitOne K (.type "tuple") (.ref I2) = some false)
    (v2P5 : PySem.W.kitOne K (.type "list") (.ref I2) = some false)
    (v2P6 : PySem.W.kitOne K (.type "dict") (.ref I2) = some false)
    (v2N8 : PySem.W.findIn K (.ref I2) "own_rules" = some none)
    (v2N9 : PySem.W.findIn K (.ref I2) "own_fields" = some none)
    (v2N10 : PySem.W.findIn K (.ref I2) "own_rest" = some none)
    (v2N11 : PySem.W.findIn K (.ref I2) "own_begin" = some none)
    (v2N12 : PySem.W.findIn K (.ref I2) "own_minutes" = some none)
    (v2N13 : PySem.W.findIn K (.ref I2) "own_is_ever" = some none)
    (v2N14 : PySem.W.findIn K (.ref I2) "own_by_rest" = some none)
    (a0 : PySem.W.nsIn K mainGlobals "is_integer" = some (some (.ref f0)))
    (l0 : K.lookup f0 = some ⟨oc0, od0, .func (PySem.W.fnOf "is_integer" "is_integer" (L2.defArgs (top 11)) (defBody (top 11)) (defScope (top 11)) .none kV0 dc0 pm0 an0 cd0 ct0), sl0⟩)
    (c0 : PySem.W.codeIn K cd0 "is_integer" = true)
    (k0 : PySem.W.keepIn K (.ref f0) = true)
    (a1 : PySem.W.nsIn K mainGlobals "is_between" = some (some (.ref f1)))
    (l1 : K.lookup f1 = some ⟨oc1, od1, .func (PySem.W.fnOf "is_between" "is_between" (L2.defArgs (top 12)) (defBody (top 12)) (defScope (top 12)) .none kV1 dc1 pm1 an1 cd1 ct1), sl1⟩)
    (c1 : PySem.W.codeIn K cd1 "is_between" = true)
    (k1 : PySem.W.keepIn K (.ref f1) = true)
    (a2 : PySem.W.nsIn K mainGlobals "is_name" = some (some (.ref f2)))
    (l2 : K.lookup f2 = some ⟨oc2, od2, .func (PySem.W.fnOf "is_name" "is_name" (L2.defArgs (top 13)) (defBody (top 13)) (defScope (top 13)) .none kV2 dc2 pm2 an2 cd2 ct2), sl2⟩)
    (c2 : PySem.W.codeIn K cd2 "is_name" = true)
    (k2 : PySem.W.keepIn K (.ref f2) = true)
    (a3 : PySem.W.nsIn K mainGlobals "read_integer" = some (some (.ref f3)))
    (l3 : K.lookup f3 = some ⟨oc3, od3, .func (PySem.W.fnOf "read_integer" "read_integer" (L2.defArgs (top 14)) (defBody (top 14)) (defScope (top 14)) .none kV3 dc3 pm3 an3 cd3 ct3), sl3⟩)
    (c3 : PySem.W.codeIn K cd3 "read_integer" = true)
    (k3 : PySem.W.keepIn K (.ref f3) = true)
    (a4 : PySem.W.nsIn K mainGlobals "common" = some (some (.ref f4)))
    (l4 : K.lookup f4 = some ⟨oc4, od4, .func (PySem.W.fnOf "common" "common" (L2.defArgs (top 15)) (defBody (top 15)) (defScope (top 15)) .none kV4 dc4 pm4 an4 cd4 ct4), sl4⟩)
    (c4 : PySem.W.codeIn K cd4 "common" = true)
    (k4 : PySem.W.keepIn K (.ref f4) = true)
    (a5 : PySem.W.nsIn K mainGlobals "is_time" = some (some (.ref f5)))
    (l5 : K.lookup f5 = some ⟨oc5, od5, .func (PySem.W.fnOf "is_time" "is_time" (L2.defArgs (top 24)) (defBody (top 24)) (defScope (top 24)) .none kV5 dc5 pm5 an5 cd5 ct5), sl5⟩)
    (c5 : PySem.W.codeIn K cd5 "is_time" = true)
    (k5 : PySem.W.keepIn K (.ref f5) = true)
    (a6 : PySem.W.nsIn K mainGlobals "check_time" = some (some (.ref f6)))
    (l6 : K.lookup f6 = some ⟨oc6, od6, .func (PySem.W.fnOf "check_time" "check_time" (L2.defArgs (top 25)) (defBody (top 25)) (defScope (top 25)) .none kV6 dc6 pm6 an6 cd6 ct6), sl6⟩)
    (c6 : PySem.W.codeIn K cd6 "check_time" = true)
    (k6 : PySem.W.keepIn K (.ref f6) = true)
    (a7 : PySem.W.nsIn K mainGlobals "is_long_year" = some (some (.ref f7)))
    (l7 : K.lookup f7 = some ⟨oc7, od7, .func (PySem.W.fnOf "is_long_year" "is_long_year" (L2.defArgs (top 26)) (defBody (top 26)) (defScope (top 26)) .none kV7 dc7 pm7 an7 cd7 ct7), sl7⟩)
    (c7 : PySem.W.codeIn K cd7 "is_long_year" = true)
    (k7 : PySem.W.keepIn K (.ref f7) = true)
    (a8 : PySem.W.nsIn K mainGlobals "days_in" = some (some (.ref f8)))
    (l8 : K.lookup f8 = some ⟨oc8, od8, .func (PySem.W.fnOf "days_in" "days_in" (L2.defArgs (top 27)) (defBody (top 27)) (defScope (top 27)) .none kV8 dc8 pm8 an8 cd8 ct8), sl8⟩)
    (c8 : PySem.W.codeIn K cd8 "days_in" = true)
    (k8 : PySem.W.keepIn K (.ref f8) = true)
    (a9 : PySem.W.nsIn K mainGlobals "days_ahead" = some (some (.ref f9)))
    (l9 : K.lookup f9 = some ⟨oc9, od9, .func (PySem.W.fnOf "days_ahead" "days_ahead" (L2.defArgs (top 28)) (defBody (top 28)) (defScope (top 28)) .none kV9 dc9 pm9 an9 cd9 ct9), sl9⟩)
    (c9 : PySem.W.codeIn K cd9 "days_ahead" = true)
    (k9 : PySem.W.keepIn K (.ref f9) = true)
    (a10 : PySem.W.nsIn K mainGlobals "date_by" = some (some (.ref f10)))
    (l10 : K.lookup f10 = some ⟨oc10, od10, .func (PySem.W.fnOf "date_by" "date_by" (L2.defArgs (top 29)) (defBody (top 29)) (defScope (top 29)) .none kV10 dc10 pm10 an10 cd10 ct10), sl10⟩)
    (c10 : PySem.W.codeIn K cd10 "date_by" = true)
    (k10 : PySem.W.keepIn K (.ref f10) = true)
    (a11 : PySem.W.nsIn K mainGlobals "weekday_by" = some (some (.ref f11)))
    (l11 : K.lookup f11 = some ⟨oc11, od11, .func (PySem.W.fnOf "weekday_by" "weekday_by" (L2.defArgs (top 30)) (defBody (top 30)) (defScope (top 30)) .none kV11 dc11 pm11 an11 cd11 ct11), sl11⟩)
    (c11 : PySem.W.codeIn K cd11 "weekday_by" = true)
    (k11 : PySem.W.keepIn K (.ref f11) = true)
    (a12 : PySem.W.nsIn K mainGlobals "read_part" = some (some (.ref f12)))
    (l12 : K.lookup f12 = some ⟨oc12, od12, .func (PySem.W.fnOf "read_part" "read_part" (L2.defArgs (top 43)) (defBody (top 43)) (defScope (top 43)) .none kV12 dc12 pm12 an12 cd12 ct12), sl12⟩)
    (c12 : PySem.W.codeIn K cd12 "read_part" = true)
    (k12 : PySem.W.keepIn K (.ref f12) = true)
    (a13 : PySem.W.nsIn K mainGlobals "read_field" = some (some (.ref f13)))
    (l13 : K.lookup f13 = some ⟨oc13, od13, .func (PySem.W.fnOf "read_field" "read_field" (L2.defArgs (top 44)) (defBody (top 44)) (defScope (top 44)) .none kV13 dc13 pm13 an13 cd13 ct13), sl13⟩)
    (c13 : PySem.W.codeIn K cd13 "read_field" = true)
    (k13 : PySem.W.keepIn K (.ref f13) = true)
    (a14 : PySem.W.nsIn K mainGlobals "read_number" = some (some (.ref f14)))
    (l14 : K.lookup f14 = some ⟨oc14, od14, .func (PySem.W.fnOf "read_number" "read_number" (L2.defArgs (top 45)) (defBody (top 45)) (defScope (top 45)) .none kV14 dc14 pm14 an14 cd14 ct14), sl14⟩)
    (c14 : PySem.W.codeIn K cd14 "read_number" = true)
    (k14 : PySem.W.keepIn K (.ref f14) = true)
    (a15 : PySem.W.nsIn K mainGlobals "check_rules" = some (some (.ref f15)))
    (l15 : K.lookup f15 = some ⟨oc15, od15, .func (PySem.W.fnOf "check_rules" "check_rules" (L2.defArgs (top 49)) (defBody (top 49)) (defScope (top 49)) .none kV15 dc15 pm15 an15 cd15 ct15), sl15⟩)
    (c15 : PySem.W.codeIn K cd15 "check_rules" = true)
    (k15 : PySem.W.keepIn K (.ref f15) = true)
    (m16a : PySem.W.findIn K (.ref I1) "jobs" = some (some (.ref pp16)))
    (m16g : PySem.W.specialIn K (.ref pp16) "__get__" = some (some (.builtin "property.__get__")))
    (m16t : PySem.W.takesIn K (.ref pp16) = some true)
    (m16r : PySem.W.recIn K pp16 "property" = some (.ref f16 :: pr16))
    (l16 : K.lookup f16 = some ⟨oc16, od16, .func (PySem.W.fnOf "jobs" "Rules.jobs" (L2.defArgs (L2.inClass (top 48) 3)) (defBody (L2.inClass (top 48) 3)) (defScope (L2.inClass (top 48) 3)) .none kV16 dc16 pm16 an16 cd16 ct16), sl16⟩)
    (c16 : PySem.W.codeIn K cd16 "Rules.jobs" = true)
    (k16 : PySem.W.keepIn K (.ref f16) = true)
    (m16f : PySem.W.isFn K (.ref f16) = true)
    (a17 : PySem.W.nsIn K mainGlobals "check_job" = some (some (.ref f17)))
    (l17 : K.lookup f17 = some ⟨oc17, od17, .func (PySem.W.fnOf "check_job" "check_job" (L2.defArgs (top 50)) (defBody (top 50)) (defScope (top 50)) .none kV17 dc17 pm17 an17 cd17 ct17), sl17⟩)
    (c17 : PySem.W.codeIn K cd17 "check_job" = true)
    (k17 : PySem.W.keepIn K (.ref f17) = true)
    (m18a : PySem.W.findIn K (.ref I1) "rule_of" = some (some (.ref f18)))
    (l18 : K.lookup f18 = some ⟨oc18, od18, .func (PySem.W.fnOf "rule_of" "Rules.rule_of" (L2.defArgs (L2.inClass (top 48) 4)) (defBody (L2.inClass (top 48) 4)) (defScope (L2.inClass (top 48) 4)) .none kV18 dc18 pm18 an18 cd18 ct18), sl18⟩)
    (c18 : PySem.W.codeIn K cd18 "Rules.rule_of" = true)
    (k18 : PySem.W.keepIn K (.ref f18) = true)
    (m18f : PySem.W.isFn K (.ref f18) = true)
    (m19a : PySem.W.findIn K (.ref I1) "stars_of" = some (some (.ref f19)))
    (l19 : K.lookup f19 = some ⟨oc19, od19, .func (PySem.W.fnOf "stars_of" "Rules.stars_of" (L2.defArgs (L2.inClass (top 48) 5)) (defBody (L2.inClass (top 48) 5)) (defScope (L2.inClass (top 48) 5)) .none kV19 dc19 pm19 an19 cd19 ct19), sl19⟩)
    (c19 : PySem.W.codeIn K cd19 "Rules.stars_of" = true)
    (k19 : PySem.W.keepIn K (.ref f19) = true)
    (m19f : PySem.W.isFn K (.ref f19) = true)
    (a20 : PySem.W.nsIn K mainGlobals "fits_in" = some (some (.ref f20)))
    (l20 : K.lookup f20 = some ⟨oc20, od20, .func (PySem.W.fnOf "fits_in" "fits_in" (L2.defArgs (top 51)) (defBody (top 51)) (defScope (top 51)) .none kV20 dc20 pm20 an20 cd20 ct20), sl20⟩)
    (c20 : PySem.W.codeIn K cd20 "fits_in" = true)
    (k20 : PySem.W.keepIn K (.ref f20) = true)
    (a21 : PySem.W.nsIn K mainGlobals "by_hours" = some (some (.ref f21)))
    (l21 : K.lookup f21 = some ⟨oc21, od21, .func (PySem.W.fnOf "by_hours" "by_hours" (L2.defArgs (top 53)) (defBody (top 53)) (defScope (top 53)) .none kV21 dc21 pm21 an21 cd21 ct21), sl21⟩)
    (c21 : PySem.W.codeIn K cd21 "by_hours" = true)
    (k21 : PySem.W.keepIn K (.ref f21) = true)
    (a22 : PySem.W.nsIn K mainGlobals "minutes_of" = some (some (.ref f22)))
    (l22 : K.lookup f22 = some ⟨oc22, od22, .func (PySem.W.fnOf "minutes_of" "minutes_of" (L2.defArgs (top 52)) (defBody (top 52)) (defScope (top 52)) .none kV22 dc22 pm22 an22 cd22 ct22), sl22⟩)
    (c22 : PySem.W.codeIn K cd22 "minutes_of" = true)
    (k22 : PySem.W.keepIn K (.ref f22) = true)
    (a23 : PySem.W.nsIn K mainGlobals "is_each" = some (some (.ref f23)))
    (l23 : K.lookup f23 = some ⟨oc23, od23, .func (PySem.W.fnOf "is_each" "is_each" (L2.defArgs (top 54)) (defBody (top 54)) (defScope (top 54)) .none kV23 dc23 pm23 an23 cd23 ct23), sl23⟩)
    (c23 : PySem.W.codeIn K cd23 "is_each" = true)
    (k23 : PySem.W.keepIn K (.ref f23) = true)
    (a24 : PySem.W.nsIn K mainGlobals "lengths_of" = some (some (.ref f24)))
    (l24 : K.lookup f24 = some ⟨oc24, od24, .func (PySem.W.fnOf "lengths_of" "lengths_of" (L2.defArgs (top 55)) (defBody (top 55)) (defScope (top 55)) .none kV24 dc24 pm24 an24 cd24 ct24), sl24⟩)
    (c24 : PySem.W.codeIn K cd24 "lengths_of" = true)
    (k24 : PySem.W.keepIn K (.ref f24) = true)
    (a25 : PySem.W.nsIn K mainGlobals "told_never" = some (some (.ref f25)))
    (l25 : K.lookup f25 = some ⟨oc25, od25, .func (PySem.W.fnOf "told_never" "told_never" (L2.defArgs (top 56)) (defBody (top 56)) (defScope (top 56)) .none kV25 dc25 pm25 an25 cd25 ct25), sl25⟩)
    (c25 : PySem.W.codeIn K cd25 "told_never" = true)
    (k25 : PySem.W.keepIn K (.ref f25) = true)
    (a26 : PySem.W.nsIn K mainGlobals "inverse" = some (some (.ref f26)))
    (l26 : K.lookup f26 = some ⟨oc26, od26, .func (PySem.W.fnOf "inverse" "inverse" (L2.defArgs (top 59)) (defBody (top 59)) (defScope (top 59)) .none kV26 dc26 pm26 an26 cd26 ct26), sl26⟩)
    (c26 : PySem.W.codeIn K cd26 "inverse" = true)
    (k26 : PySem.W.keepIn K (.ref f26) = true)
    (a27 : PySem.W.nsIn K mainGlobals "put_together" = some (some (.ref f27)))
    (l27 : K.lookup f27 = some ⟨oc27, od27, .func (PySem.W.fnOf "put_together" "put_together" (L2.defArgs (top 58)) (defBody (top 58)) (defScope (top 58)) .none kV27 dc27 pm27 an27 cd27 ct27), sl27⟩)
    (c27 : PySem.W.codeIn K cd27 "put_together" = true)
    (k27 : PySem.W.keepIn K (.ref f27) = true)
    (a28 : PySem.W.nsIn K mainGlobals "all_together" = some (some (.ref f28)))
    (l28 : K.lookup f28 = some ⟨oc28, od28, .func (PySem.W.fnOf "all_together" "all_together" (L2.defArgs (top 60)) (defBody (top 60)) (defScope (top 60)) .none kV28 dc28 pm28 an28 cd28 ct28), sl28⟩)
    (c28 : PySem.W.codeIn K cd28 "all_together" = true)
    (k28 : PySem.W.keepIn K (.ref f28) = true)
    (a29 : PySem.W.nsIn K mainGlobals "check_two" = some (some (.ref f29)))
    (l29 : K.lookup f29 = some ⟨oc29, od29, .func (PySem.W.fnOf "check_two" "check_two" (L2.defArgs (top 69)) (defBody (top 69)) (defScope (top 69)) .none kV29 dc29 pm29 an29 cd29 ct29), sl29⟩)
    (c29 : PySem.W.codeIn K cd29 "check_two" = true)
    (k29 : PySem.W.keepIn K (.ref f29) = true)
    (a30 : PySem.W.nsIn K mainGlobals "why_apart" = some (some (.ref f30)))
    (l30 : K.lookup f30 = some ⟨oc30, od30, .func (PySem.W.fnOf "why_apart" "why_apart" (L2.defArgs (top 70)) (defBody (top 70)) (defScope (top 70)) .none kV30 dc30 pm30 an30 cd30 ct30), sl30⟩)
    (c30 : PySem.W.codeIn K cd30 "why_apart" = true)
    (k30 : PySem.W.keepIn K (.ref f30) = true)
    (m31a : PySem.W.findIn K (.ref I2) "days_from" = some (some (.ref f31)))
    (l31 : K.lookup f31 = some ⟨oc31, od31, .func (PySem.W.fnOf "days_from" "Meeting.days_from" (L2.defArgs (L2.inClass (top 68) 3)) (defBody (L2.inClass (top 68) 3)) (defScope (L2.inClass (top 68) 3)) .none kV31 dc31 pm31 an31 cd31 ct31), sl31⟩)
    (c31 : PySem.W.codeIn K cd31 "Meeting.days_from" = true)
    (k31 : PySem.W.keepIn K (.ref f31) = true)
    (m31f : PySem.W.isFn K (.ref f31) = true)
    (m32a : PySem.W.findIn K (.ref I2) "minutes_on" = some (some (.ref f32)))
    (l32 : K.lookup f32 = some ⟨oc32, od32, .func (PySem.W.fnOf "minutes_on" "Meeting.minutes_on" (L2.defArgs (L2.inClass (top 68) 2)) (defBody (L2.inClass (top 68) 2)) (defScope (L2.inClass (top 68) 2)) .none kV32 dc32 pm32 an32 cd32 ct32), sl32⟩)
    (c32 : PySem.W.codeIn K cd32 "Meeting.minutes_on" = true)
    (k32 : PySem.W.keepIn K (.ref f32) = true)
    (m32f : PySem.W.isFn K (.ref f32) = true)
    (m33a : PySem.W.findIn K (.ref I2) "first" = some (some (.ref f33)))
    (l33 : K.lookup f33 = some ⟨oc33, od33, .func (PySem.W.fnOf "first" "Meeting.first" (L2.defArgs (L2.inClass (top 68) 4)) (defBody (L2.inClass (top 68) 4)) (defScope (L2.inClass (top 68) 4)) .none kV33 dc33 pm33 an33 cd33 ct33), sl33⟩)
    (c33 : PySem.W.codeIn K cd33 "Meeting.first" = true)
    (k33 : PySem.W.keepIn K (.ref f33) = true)
    (m33f : PySem.W.isFn K (.ref f33) = true)
    (m34a : PySem.W.findIn K (.ref I2) "by_rest" = some (some (.ref f34)))
    (l34 : K.lookup f34 = some ⟨oc34, od34, .func (PySem.W.fnOf "by_rest" "Meeting.by_rest" (L2.defArgs (L2.inClass (top 68) 1)) (defBody (L2.inClass (top 68) 1)) (defScope (L2.inClass (top 68) 1)) .none kV34 dc34 pm34 an34 cd34 ct34), sl34⟩)
    (c34 : PySem.W.codeIn K cd34 "Meeting.by_rest" = true)
    (k34 : PySem.W.keepIn K (.ref f34) = true)
    (m34f : PySem.W.isFn K (.ref f34) = true)
    (m35a : PySem.W.findIn K (.ref I2) "__init__" = some (some (.ref f35)))
    (l35 : K.lookup f35 = some ⟨oc35, od35, .func (PySem.W.fnOf "__init__" "Meeting.__init__" (L2.defArgs (L2.inClass (top 68) 0)) (defBody (L2.inClass (top 68) 0)) (defScope (L2.inClass (top 68) 0)) .none kV35 dc35 pm35 an35 cd35 ct35), sl35⟩)
    (c35 : PySem.W.codeIn K cd35 "Meeting.__init__" = true)
    (k35 : PySem.W.keepIn K (.ref f35) = true)
    (m35f : PySem.W.isFn K (.ref f35) = true)
    (a36 : PySem.W.nsIn K mainGlobals "meet" = some (some (.ref f36)))
    (l36 : K.lookup f36 = some ⟨oc36, od36, .func (PySem.W.fnOf "meet" "meet" (L2.defArgs (top 71)) (defBody (top 71)) (defScope (top 71)) .none kV36 dc36 pm36 an36 cd36 ct36), sl36⟩)
    (c36 : PySem.W.codeIn K cd36 "meet" = true)
    (k36 : PySem.W.keepIn K (.ref f36) = true)
    (a37 : PySem.W.nsIn K mainGlobals "next_meet" = some (some (.ref f37)))
    (l37 : K.lookup f37 = some ⟨oc37, od37, .func (PySem.W.fnOf "next_meet" "next_meet" (L2.defArgs (top 72)) (defBody (top 72)) (defScope (top 72)) .none kV37 dc37 pm37 an37 cd37 ct37), sl37⟩)
    (c37 : PySem.W.codeIn K cd37 "next_meet" = true)
    (k37 : PySem.W.keepIn K (.ref f37) = true)
    (m38a : PySem.W.findIn K (.ref I2) "behind" = some (some (.ref f38)))
    (l38 : K.lookup f38 = some ⟨oc38, od38, .func (PySem.W.fnOf "behind" "Meeting.behind" (L2.defArgs (L2.inClass (top 68) 6)) (defBody (L2.inClass (top 68) 6)) (defScope (L2.inClass (top 68) 6)) .none kV38 dc38 pm38 an38 cd38 ct38), sl38⟩)
    (c38 : PySem.W.codeIn K cd38 "Meeting.behind" = true)
    (k38 : PySem.W.keepIn K (.ref f38) = true)
    (m38f : PySem.W.isFn K (.ref f38) = true)
    (m39a : PySem.W.findIn K (.ref I2) "count" = some (some (.ref f39)))
    (l39 : K.lookup f39 = some ⟨oc39, od39, .func (PySem.W.fnOf "count" "Meeting.count" (L2.defArgs (L2.inClass (top 68) 5)) (defBody (L2.inClass (top 68) 5)) (defScope (L2.inClass (top 68) 5)) .none kV39 dc39 pm39 an39 cd39 ct39), sl39⟩)
    (c39 : PySem.W.codeIn K cd39 "Meeting.count" = true)
    (k39 : PySem.W.keepIn K (.ref f39) = true)
    (m39f : PySem.W.isFn K (.ref f39) = true)
    (a40 : PySem.W.nsIn K mainGlobals "meetings" = some (some (.ref f40)))
    (l40 : K.lookup f40 = some ⟨oc40, od40, .func (PySem.W.fnOf "meetings" "meetings" (L2.defArgs (top 73)) (defBody (top 73)) (defScope (top 73)) .none kV40 dc40 pm40 an40 cd40 ct40), sl40⟩)
    (c40 : PySem.W.codeIn K cd40 "meetings" = true)
    (k40 : PySem.W.keepIn K (.ref f40) = true)
    (a41 : PySem.W.nsIn K mainGlobals "_law_pot" = some (some (.ref f41)))
    (l41 : K.lookup f41 = some ⟨oc41, od41, .func (PySem.W.fnOf "_law_pot" "_law_pot" (L2.defArgs (top 75)) (defBody (top 75)) (defScope (top 75)) .none kV41 dc41 pm41 an41 cd41 ct41), sl41⟩)
    (c41 : PySem.W.codeIn K cd41 "_law_pot" = true)
    (k41 : PySem.W.keepIn K (.ref f41) = true)
    (a42 : PySem.W.nsIn K mainGlobals "_law_take" = some (some (.ref f42)))
    (l42 : K.lookup f42 = some ⟨oc42, od42, .func (PySem.W.fnOf "_law_take" "_law_take" (L2.defArgs (top 76)) (defBody (top 76)) (defScope (top 76)) .none kV42 dc42 pm42 an42 cd42 ct42), sl42⟩)
    (c42 : PySem.W.codeIn K cd42 "_law_take" = true)
    (k42 : PySem.W.keepIn K (.ref f42) = true)
    (a43 : PySem.W.nsIn K mainGlobals "_law_of" = some (some (.ref f43)))
    (l43 : K.lookup f43 = some ⟨oc43, od43, .func (PySem.W.fnOf "_law_of" "_law_of" (L2.defArgs (top 77)) (defBody (top 77)) (defScope (top 77)) .none kV43 dc43 pm43 an43 cd43 ct43), sl43⟩)
    (c43 : PySem.W.codeIn K cd43 "_law_of" = true)
    (k43 : PySem.W.keepIn K (.ref f43) = true)
    (a44 : PySem.W.nsIn K mainGlobals "_law_cells" = some (some (.ref f44)))
    (l44 : K.lookup f44 = some ⟨oc44, od44, .func (PySem.W.fnOf "_law_cells" "_law_cells" (L2.defArgs (top 78)) (defBody (top 78)) (defScope (top 78)) .none kV44 dc44 pm44 an44 cd44 ct44), sl44⟩)
    (c44 : PySem.W.codeIn K cd44 "_law_cells" = true)
    (k44 : PySem.W.keepIn K (.ref f44) = true)
    (a45 : PySem.W.nsIn K mainGlobals "_law_some" = some (some (.ref f45)))
    (l45 : K.lookup f45 = some ⟨oc45, od45, .func (PySem.W.fnOf "_law_some" "_law_some" (L2.defArgs (top 79)) (defBody (top 79)) (defScope (top 79)) .none kV45 dc45 pm45 an45 cd45 ct45), sl45⟩)
    (c45 : PySem.W.codeIn K cd45 "_law_some" = true)
    (k45 : PySem.W.keepIn K (.ref f45) = true)
    (a46 : PySem.W.nsIn K mainGlobals "_law_name" = some (some (.ref f46)))
    (l46 : K.lookup f46 = some ⟨oc46, od46, .func (PySem.W.fnOf "_law_name" "_law_name" (L2.defArgs (top 80)) (defBody (top 80)) (defScope (top 80)) .none kV46 dc46 pm46 an46 cd46 ct46), sl46⟩)
    (c46 : PySem.W.codeIn K cd46 "_law_name" = true)
    (k46 : PySem.W.keepIn K (.ref f46) = true)
    (a47 : PySem.W.nsIn K mainGlobals "_law_names" = some (some (.ref f47)))
    (l47 : K.lookup f47 = some ⟨oc47, od47, .func (PySem.W.fnOf "_law_names" "_law_names" (L2.defArgs (top 81)) (defBody (top 81)) (defScope (top 81)) .none kV47 dc47 pm47 an47 cd47 ct47), sl47⟩)
    (c47 : PySem.W.codeIn K cd47 "_law_names" = true)
    (k47 : PySem.W.keepIn K (.ref f47) = true)
    (a48 : PySem.W.nsIn K mainGlobals "_law_common" = some (some (.ref f48)))
    (l48 : K.lookup f48 = some ⟨oc48, od48, .func (PySem.W.fnOf "_law_common" "_law_common" (L2.defArgs (top 82)) (defBody (top 82)) (defScope (top 82)) .none kV48 dc48 pm48 an48 cd48 ct48), sl48⟩)
    (c48 : PySem.W.codeIn K cd48 "_law_common" = true)
    (k48 : PySem.W.keepIn K (.ref f48) = true)
    (a49 : PySem.W.nsIn K mainGlobals "_law_two" = some (some (.ref f49)))
    (l49 : K.lookup f49 = some ⟨oc49, od49, .func (PySem.W.fnOf "_law_two" "_law_two" (L2.defArgs (top 83)) (defBody (top 83)) (defScope (top 83)) .none kV49 dc49 pm49 an49 cd49 ct49), sl49⟩)
    (c49 : PySem.W.codeIn K cd49 "_law_two" = true)
    (k49 : PySem.W.keepIn K (.ref f49) = true)
    (a50 : PySem.W.nsIn K mainGlobals "_law_met" = some (some (.ref f50)))
    (l50 : K.lookup f50 = some ⟨oc50, od50, .func (PySem.W.fnOf "_law_met" "_law_met" (L2.defArgs (top 84)) (defBody (top 84)) (defScope (top 84)) .none kV50 dc50 pm50 an50 cd50 ct50), sl50⟩)
    (c50 : PySem.W.codeIn K cd50 "_law_met" = true)
    (k50 : PySem.W.keepIn K (.ref f50) = true)
    (m51a : PySem.W.findIn K (.ref I0) "__init__" = some (some (.ref f51)))
    (l51 : K.lookup f51 = some ⟨oc51, od51, .func (PySem.W.fnOf "__init__" "RuleReader.__init__" (L2.defArgs (L2.inClass (top 46) 0)) (defBody (L2.inClass (top 46) 0)) (defScope (L2.inClass (top 46) 0)) .none kV51 dc51 pm51 an51 cd51 ct51), sl51⟩)
    (c51 : PySem.W.codeIn K cd51 "RuleReader.__init__" = true)
    (k51 : PySem.W.keepIn K (.ref f51) = true)
    (m51f : PySem.W.isFn K (.ref f51) = true)
    (m52a : PySem.W.findIn K (.ref I0) "found" = some (some (.ref f52)))
    (l52 : K.lookup f52 = some ⟨oc52, od52, .func (PySem.W.fnOf "found" "RuleReader.found" (L2.defArgs (L2.inClass (top 46) 5)) (defBody (L2.inClass (top 46) 5)) (defScope (L2.inClass (top 46) 5)) .none kV52 dc52 pm52 an52 cd52 ct52), sl52⟩)
    (c52 : PySem.W.codeIn K cd52 "RuleReader.found" = true)
    (k52 : PySem.W.keepIn K (.ref f52) = true)
    (m52f : PySem.W.isFn K (.ref f52) = true)
    (m53a : PySem.W.findIn K (.ref I0) "takes_long" = some (some (.ref f53)))
    (l53 : K.lookup f53 = some ⟨oc53, od53, .func (PySem.W.fnOf "takes_long" "RuleReader.takes_long" (L2.defArgs (L2.inClass (top 46) 4)) (defBody (L2.inClass (top 46) 4)) (defScope (L2.inClass (top 46) 4)) .none kV53 dc53 pm53 an53 cd53 ct53), sl53⟩)
    (c53 : PySem.W.codeIn K cd53 "RuleReader.takes_long" = true)
    (k53 : PySem.W.keepIn K (.ref f53) = true)
    (m53f : PySem.W.isFn K (.ref f53) = true)
    (m54a : PySem.W.findIn K (.ref I0) "takes_each" = some (some (.ref f54)))
    (l54 : K.lookup f54 = some ⟨oc54, od54, .func (PySem.W.fnOf "takes_each" "RuleReader.takes_each" (L2.defArgs (L2.inClass (top 46) 2)) (defBody (L2.inClass (top 46) 2)) (defScope (L2.inClass (top 46) 2)) .none kV54 dc54 pm54 an54 cd54 ct54), sl54⟩)
    (c54 : PySem.W.codeIn K cd54 "RuleReader.takes_each" = true)
    (k54 : PySem.W.keepIn K (.ref f54) = true)
    (m54f : PySem.W.isFn K (.ref f54) = true)
    (m55a : PySem.W.findIn K (.ref I0) "takes_fields" = some (some (.ref f55)))
    (l55 : K.lookup f55 = some ⟨oc55, od55, .func (PySem.W.fnOf "takes_fields" "RuleReader.takes_fields" (L2.defArgs (L2.inClass (top 46) 3)) (defBody (L2.inClass (top 46) 3)) (defScope (L2.inClass (top 46) 3)) .none kV55 dc55 pm55 an55 cd55 ct55), sl55⟩)
    (c55 : PySem.W.codeIn K cd55 "RuleReader.takes_fields" = true)
    (k55 : PySem.W.keepIn K (.ref f55) = true)
    (m55f : PySem.W.isFn K (.ref f55) = true)
    (m56a : PySem.W.findIn K (.ref I0) "takes" = some (some (.ref f56)))
    (l56 : K.lookup f56 = some ⟨oc56, od56, .func (PySem.W.fnOf "takes" "RuleReader.takes" (L2.defArgs (L2.inClass (top 46) 1)) (defBody (L2.inClass (top 46) 1)) (defScope (L2.inClass (top 46) 1)) .none kV56 dc56 pm56 an56 cd56 ct56), sl56⟩)
    (c56 : PySem.W.codeIn K cd56 "RuleReader.takes" = true)
    (k56 : PySem.W.keepIn K (.ref f56) = true)
    (m56f : PySem.W.isFn K (.ref f56) = true)
    (m57a : PySem.W.findIn K (.ref I1) "__init__" = some (some (.ref f57)))
    (l57 : K.lookup f57 = some ⟨oc57, od57, .func (PySem.W.fnOf "__init__" "Rules.__init__" (L2.defArgs (L2.inClass (top 48) 0)) (defBody (L2.inClass (top 48) 0)) (defScope (L2.inClass (top 48) 0)) .none kV57 dc57 pm57 an57 cd57 ct57), sl57⟩)
    (c57 : PySem.W.codeIn K cd57 "Rules.__init__" = true)
    (k57 : PySem.W.keepIn K (.ref f57) = true)
    (m57f : PySem.W.isFn K (.ref f57) = true)
    (a58 : PySem.W.nsIn K mainGlobals "_law_right" = some (some (.ref f58)))
    (l58 : K.lookup f58 = some ⟨oc58, od58, .func (PySem.W.fnOf "_law_right" "_law_right" (L2.defArgs (top 85)) (defBody (top 85)) (defScope (top 85)) .none kV58 dc58 pm58 an58 cd58 ct58), sl58⟩)
    (c58 : PySem.W.codeIn K cd58 "_law_right" = true)
    (k58 : PySem.W.keepIn K (.ref f58) = true)
    (a59 : PySem.W.nsIn K mainGlobals "law" = some (some (.ref f59)))
    (l59 : K.lookup f59 = some ⟨oc59, od59, .func (PySem.W.fnOf "law" "law" (L2.defArgs (top 86)) (defBody (top 86)) (defScope (top 86)) .none kV59 dc59 pm59 an59 cd59 ct59), sl59⟩)
    (c59 : PySem.W.codeIn K cd59 "law" = true)
    (k59 : PySem.W.keepIn K (.ref f59) = true)
    (z0 : PySem.W.nsIn K mainGlobals "len" = some none)
    (z1 : PySem.W.nsIn K mainGlobals "abs" = some none)
    (z2 : PySem.W.nsIn K mainGlobals "sum" = some none)
    (z3 : PySem.W.nsIn K mainGlobals "all" = some none)
    (z4 : PySem.W.nsIn K mainGlobals "any" = some none)
    (z5 : PySem.W.nsIn K mainGlobals "min" = some none)
    (z6 : PySem.W.nsIn K mainGlobals "max" = some none)
    (z7 : PySem.W.nsIn K mainGlobals "int" = some none)
    (z8 : PySem.W.nsIn K mainGlobals "bool" = some none)
    (z9 : PySem.W.nsIn K mainGlobals "str" = some none)
    (z10 : PySem.W.nsIn K mainGlobals "tuple" = some none)
    (z11 : PySem.W.nsIn K mainGlobals "list" = some none)
    (z12 : PySem.W.nsIn K mainGlobals "dict" = some none)
    (z13 : PySem.W.nsIn K mainGlobals "repr" = some none)
    (z14 : PySem.W.nsIn K mainGlobals "sorted" = some none)
    (z15 : PySem.W.nsIn K mainGlobals "isinstance" = some none)
    (z16 : PySem.W.nsIn K mainGlobals "range" = some none)
    (z17 : PySem.W.nsIn K mainGlobals "enumerate" = some none)
    (z18 : PySem.W.nsIn K mainGlobals "zip" = some none)
    (z19 : PySem.W.nsIn K mainGlobals "ValueError" = some none)
    (z20 : PySem.W.nsIn K mainGlobals "set" = some none)
    (q0 : PySem.W.nsIn K mainGlobals "LETTERS" = some (some (.str "abcdefghijklmnopqrstuvwxyz" t0)))
    (q1 : PySem.W.nsIn K mainGlobals "FIGURES" = some (some (.str "0123456789" t1)))
    (q2 : PySem.W.nsIn K mainGlobals "MOST_SIGNS" = some (some (.int 8 t2)))
    (q3 : PySem.W.nsIn K mainGlobals "DAYS" = some (some (.int 146097 t3)))
    (q4 : PySem.W.nsIn K mainGlobals "MINUTES" = some (some (.int 1440 t4)))
    (q5 : PySem.W.nsIn K mainGlobals "FIRST_YEAR" = some (some (.int 2000 t5)))
    (q6 : PySem.W.nsIn K mainGlobals "LAST_YEAR" = some (some (.int 2399 t6)))
    (q7 : PySem.W.nsIn K mainGlobals "MONTHS" = some (some (.int 12 t7)))
    (q8 : PySem.W.nsIn K mainGlobals "FIRST_WEEKDAY" = some (some (.int 6 t8)))
    (q9 : PySem.W.nsIn K mainGlobals "LENGTHS" = some (some (.ref t9)))
    (q9l : K.lookup t9 = some ⟨.type "tuple", td9, .seq ti9 tn9, ts9⟩)
    (q9v : ti9.toList.map intOfV = ([31, 28, 31, 30, 31, 30, 31, 31, 30, 31, 30, 31] : List Int).map some)
    (q10 : PySem.W.nsIn K mainGlobals "JOB" = some (some (.str "job" t10)))
    (q11 : PySem.W.nsIn K mainGlobals "TAKES" = some (some (.str "takes" t11)))
    (q12 : PySem.W.nsIn K mainGlobals "AT" = some (some (.str "at" t12)))
    (q13 : PySem.W.nsIn K mainGlobals "OR" = some (some (.str "or" t13)))
    (q14 : PySem.W.nsIn K mainGlobals "EACH" = some (some (.str "each" t14)))
    (q15 : PySem.W.nsIn K mainGlobals "FROM" = some (some (.str "from" t15)))
    (q16 : PySem.W.nsIn K mainGlobals "STAR" = some (some (.str "*" t16)))
    (q17 : PySem.W.nsIn K mainGlobals "MOST_JOBS" = some (some (.int 12 t17)))
    (q18 : PySem.W.nsIn K mainGlobals "MOST_EACH" = some (some (.int 999999 t18)))
    (q19 : PySem.W.nsIn K mainGlobals "LAST_TIME" = some (some (.int 210379679 t19)))
    (q20 : PySem.W.nsIn K mainGlobals "FIELDS" = some (some (.ref t20)))
    (q20l : K.lookup t20 = some ⟨.type "tuple", td20, .seq ti20 tn20, ts20⟩)
    (q20v : ti20.toList = [.ref tu20_0, .ref tu20_1, .ref tu20_2, .ref tu20_3, .ref tu20_4])
    (q20r0l : K.lookup tu20_0 = some ⟨.type "tuple", td20_0, .seq ti20_0 tn20_0, ts20_0⟩)
    (q20r0v : ti20_0.toList.map intOfV = ([0, 59] : List Int).map some)
    (q20r1l : K.lookup tu20_1 = some ⟨.type "tuple", td20_1, .seq ti20_1 tn20_1, ts20_1⟩)
    (q20r1v : ti20_1.toList.map intOfV = ([0, 23] : List Int).map some)
    (q20r2l : K.lookup tu20_2 = some ⟨.type "tuple", td20_2, .seq ti20_2 tn20_2, ts20_2⟩)
    (q20r2v : ti20_2.toList.map intOfV = ([1, 31] : List Int).map some)
    (q20r3l : K.lookup tu20_3 = some ⟨.type "tuple", td20_3, .seq ti20_3 tn20_3, ts20_3⟩)
    (q20r3v : ti20_3.toList.map intOfV = ([1, 12] : List Int).map some)
    (q20r4l : K.lookup tu20_4 = some ⟨.type "tuple", td20_4, .seq ti20_4 tn20_4, ts20_4⟩)
    (q20r4v : ti20_4.toList.map intOfV = ([0, 6] : List Int).map some)
    (q21 : PySem.W.nsIn K mainGlobals "MEET" = some (some (.str "meet" t21)))
    (q22 : PySem.W.nsIn K mainGlobals "APART" = some (some (.str "apart" t22)))
    (q23 : PySem.W.nsIn K mainGlobals "RESTS" = some (some (.str "rests" t23)))
    (q24 : PySem.W.nsIn K mainGlobals "LATE" = some (some (.str "late" t24)))
    (q25 : PySem.W.nsIn K mainGlobals "MINUTE_WORD" = some (some (.str "minutes" t25)))
    (q26 : PySem.W.nsIn K mainGlobals "DAY_WORD" = some (some (.str "days" t26)))
    (e0a : PySem.W.nsIn K mainGlobals "JobError" = some (some (.ref C0)))
    (e1a : PySem.W.nsIn K mainGlobals "BadRules" = some (some (.ref C1)))
    (e2a : PySem.W.nsIn K mainGlobals "BadTime" = some (some (.ref C2)))
    (e3a : PySem.W.nsIn K mainGlobals "NoJob" = some (some (.ref C3)))
    (e4a : PySem.W.nsIn K mainGlobals "NoRules" = some (some (.ref C4)))
    (e0x : K.lookup C0 = some (PySem.excClassObj nm0 qn0 C0 ns0 bs0 [.type "ValueError", .type "Exception", .type "BaseException", .type "object"] true sn0 su0 ab0 co0 dd0 u00 u01 u02 u03 u05 "ValueError.__new__"))
    (e0g : PySem.W.findIn K (.ref C0) "__getattribute__" = some (some (.builtin "BaseException.__getattribute__")))
    (e0h : PySem.W.findIn K (.ref C0) "__getattr__" = some none)
    (e0b : PySem.W.subIn K (.ref C0) (.type "BaseException") = some true)
    (e0d : PySem.W.hasDictIn K C0 = true)
    (e0c : PySem.W.findIn K (.ref C0) "__class__" = some (some (.builtin "object.__class__")))
    (e0m : PySem.W.mroIn K C0 (.type "object") = some true)
    (e0n : PySem.W.findIn K (.ref C0) "value" = some none)
    (e0s : PySem.W.findIn K (.ref C0) "__setattr__" = some (some (.builtin "object.__setattr__")))
    (e0i : PySem.W.findIn K (.ref C0) "__init__" = some (some (.ref fI)))
    (e0k : PySem.W.keepIn K (.ref C0) = true)
    (e0t : PySem.W.typeIn K (.ref C0) = some (.type "type"))
    (e0u : PySem.W.mroIn K C0 (.ref C0) = some true)
    (e0w : PySem.W.ks_superIn K C0 C0 "__init__" = some (some (.builtin "ValueError.__init__")))
    (e0v : PySem.W.subIn K (.ref C0) (.type "ValueError") = some true)
    (e0q : PySem.W.excInitIn K C0 veBases "ValueError.__new__" = true)
    (e0y : PySem.W.kitOne K (.ref C0) (.type "ValueError") = some true)
    (e0A0 : PySem.W.kitOne K (.ref C0) (.ref C0) = some true)
    (e0B0 : PySem.W.exmOne K (.ref C0) (.ref C0) = some true)
    (e0A1 : PySem.W.kitOne K (.ref C0) (.ref C1) = some false)
    (e0B1 : PySem.W.exmOne K (.ref C0) (.ref C1) = some false)
    (e0A2 : PySem.W.kitOne K (.ref C0) (.ref C2) = some false)
    (e0B2 : PySem.W.exmOne K (.ref C0) (.ref C2) = some false)
    (e0A3 : PySem.W.kitOne K (.ref C0) (.ref C3) = some false)
    (e0B3 : PySem.W.exmOne K (.ref C0) (.ref C3) = some false)
    (e0A4 : PySem.W.kitOne K (.ref C0) (.ref C4) = some false)
    (e0B4 : PySem.W.exmOne K (.ref C0) (.ref C4) = some false)
    (e0P0 : PySem.W.kitOne K (.type "NoneType") (.ref C0) = some false)
    (e0P1 : PySem.W.kitOne K (.type "bool") (.ref C0) = some false)
    (e0P2 : PySem.W.kitOne K (.type "int") (.ref C0) = some false)
    (e0P3 : PySem.W.kitOne K (.type "str") (.ref C0) = some false)
    (e0P4 : PySem.W.kitOne K (.type "tuple") (.ref C0) = some false)
    (e0P5 : PySem.W.kitOne K (.type "list") (.ref C0) = some false)
    (e0P6 : PySem.W.kitOne K (.type "dict") (.ref C0) = some false)
    (e1x : K.lookup C1 = some (PySem.excClassObj nm1 qn1 C1 ns1 bs1 [.ref C0, .type "ValueError", .type "Exception", .type "BaseException", .type "object"] true sn1 su1 ab1 co1 dd1 u10 u11 u12 u13 u15 "ValueError.__new__"))
    (e1g : PySem.W.findIn K (.ref C1) "__getattribute__" = some (some (.builtin "BaseException.__getattribute__")))
    (e1h : PySem.W.findIn K (.ref C1) "__getattr__" = some none)
    (e1b : PySem.W.subIn K (.ref C1) (.type "BaseException") = some true)
    (e1d : PySem.W.hasDictIn K C1 = true)
    (e1c : PySem.W.findIn K (.ref C1) "__class__" = some (some (.builtin "object.__class__")))
    (e1m : PySem.W.mroIn K C1 (.type "object") = some true)
    (e1n : PySem.W.findIn K (.ref C1) "value" = some none)
    (e1s : PySem.W.findIn K (.ref C1) "__setattr__" = some (some (.builtin "object.__setattr__")))
    (e1i : PySem.W.findIn K (.ref C1) "__init__" = some (some (.ref fI)))
    (e1k : PySem.W.keepIn K (.ref C1) = true)
    (e1t : PySem.W.typeIn K (.ref C1) = some (.type "type"))
    (e1u : PySem.W.mroIn K C1 (.ref C0) = some true)
    (e1w : PySem.W.ks_superIn K C1 C0 "__init__" = some (some (.builtin "ValueError.__init__")))
    (e1v : PySem.W.subIn K (.ref C1) (.type "ValueError") = some true)
    (e1q : PySem.W.excInitIn K C1 veBases "ValueError.__new__" = true)
    (e1y : PySem.W.kitOne K (.ref C1) (.type "ValueError") = some true)
    (e1A0 : PySem.W.kitOne K (.ref C1) (.ref C0) = some true)
    (e1B0 : PySem.W.exmOne K (.ref C1) (.ref C0) = some true)
    (e1A1 : PySem.W.kitOne K (.ref C1) (.ref C1) = some true)
    (e1B1 : PySem.W.exmOne K (.ref C1) (.ref C1) = some true)
    (e1A2 : PySem.W.kitOne K (.ref C1) (.ref C2) = some false)
    (e1B2 : PySem.W.exmOne K (.ref C1) (.ref C2) = some false)
    (e1A3 : PySem.W.kitOne K (.ref C1) (.ref C3) = some false)
    (e1B3 : PySem.W.exmOne K (.ref C1) (.ref C3) = some false)
    (e1A4 : PySem.W.kitOne K (.ref C1) (.ref C4) = some false)
    (e1B4 : PySem.W.exmOne K (.ref C1) (.ref C4) = some false)
    (e1P0 : PySem.W.kitOne K (.type "NoneType") (.ref C1) = some false)
    (e1P1 : PySem.W.kitOne K (.type "bool") (.ref C1) = some false)
    (e1P2 : PySem.W.kitOne K (.type "int") (.ref C1) = some false)
    (e1P3 : PySem.W.kitOne K (.type "str") (.ref C1) = some false)
    (e1P4 : PySem.W.kitOne K (.type "tuple") (.ref C1) = some false)
    (e1P5 : PySem.W.kitOne K (.type "list") (.ref C1) = some false)
    (e1P6 : PySem.W.kitOne K (.type "dict") (.ref C1) = some false)
    (e2x : K.lookup C2 = some (PySem.excClassObj nm2 qn2 C2 ns2 bs2 [.ref C0, .type "ValueError", .type "Exception", .type "BaseException", .type "object"] true sn2 su2 ab2 co2 dd2 u20 u21 u22 u23 u25 "ValueError.__new__"))
    (e2g : PySem.W.findIn K (.ref C2) "__getattribute__" = some (some (.builtin "BaseException.__getattribute__")))
    (e2h : PySem.W.findIn K (.ref C2) "__getattr__" = some none)
    (e2b : PySem.W.subIn K (.ref C2) (.type "BaseException") = some true)
    (e2d : PySem.W.hasDictIn K C2 = true)
    (e2c : PySem.W.findIn K (.ref C2) "__class__" = some (some (.builtin "object.__class__")))
    (e2m : PySem.W.mroIn K C2 (.type "object") = some true)
    (e2n : PySem.W.findIn K (.ref C2) "value" = some none)
    (e2s : PySem.W.findIn K (.ref C2) "__setattr__" = some (some (.builtin "object.__setattr__")))
    (e2i : PySem.W.findIn K (.ref C2) "__init__" = some (some (.ref fI)))
    (e2k : PySem.W.keepIn K (.ref C2) = true)
    (e2t : PySem.W.typeIn K (.ref C2) = some (.type "type"))
    (e2u : PySem.W.mroIn K C2 (.ref C0) = some true)
    (e2w : PySem.W.ks_superIn K C2 C0 "__init__" = some (some (.builtin "ValueError.__init__")))
    (e2v : PySem.W.subIn K (.ref C2) (.type "ValueError") = some true)
    (e2q : PySem.W.excInitIn K C2 veBases "ValueError.__new__" = true)
    (e2y : PySem.W.kitOne K (.ref C2) (.type "ValueError") = some true)
    (e2A0 : PySem.W.kitOne K (.ref C2) (.ref C0) = some true)
    (e2B0 : PySem.W.exmOne K (.ref C2) (.ref C0) = some true)
    (e2A1 : PySem.W.kitOne K (.ref C2) (.ref C1) = some false)
    (e2B1 : PySem.W.exmOne K (.ref C2) (.ref C1) = some false)
    (e2A2 : PySem.W.kitOne K (.ref C2) (.ref C2) = some true)
    (e2B2 : PySem.W.exmOne K (.ref C2) (.ref C2) = some true)
    (e2A3 : PySem.W.kitOne K (.ref C2) (.ref C3) = some false)
    (e2B3 : PySem.W.exmOne K (.ref C2) (.ref C3) = some false)
    (e2A4 : PySem.W.kitOne K (.ref C2) (.ref C4) = some false)
    (e2B4 : PySem.W.exmOne K (.ref C2) (.ref C4) = some false)
    (e2P0 : PySem.W.kitOne K (.type "NoneType") (.ref C2) = some false)
    (e2P1 : PySem.W.kitOne K (.type "bool") (.ref C2) = some false)
    (e2P2 : PySem.W.kitOne K (.type "int") (.ref C2) = some false)
    (e2P3 : PySem.W.kitOne K (.type "str") (.ref C2) = some false)
    (e2P4 : PySem.W.kitOne K (.type "tuple") (.ref C2) = some false)
    (e2P5 : PySem.W.kitOne K (.type "list") (.ref C2) = some false)
    (e2P6 : PySem.W.kitOne K (.type "dict") (.ref C2) = some false)
    (e3x : K.lookup C3 = some (PySem.excClassObj nm3 qn3 C3 ns3 bs3 [.ref C0, .type "ValueError", .type "Exception", .type "BaseException", .type "object"] true sn3 su3 ab3 co3 dd3 u30 u31 u32 u33 u35 "ValueError.__new__"))
    (e3g : PySem.W.findIn K (.ref C3) "__getattribute__" = some (some (.builtin "BaseException.__getattribute__")))
    (e3h : PySem.W.findIn K (.ref C3) "__getattr__" = some none)
    (e3b : PySem.W.subIn K (.ref C3) (.type "BaseException") = some true)
    (e3d : PySem.W.hasDictIn K C3 = true)
    (e3c : PySem.W.findIn K (.ref C3) "__class__" = some (some (.builtin "object.__class__")))
    (e3m : PySem.W.mroIn K C3 (.type "object") = some true)
    (e3n : PySem.W.findIn K (.ref C3) "value" = some none)
    (e3s : PySem.W.findIn K (.ref C3) "__setattr__" = some (some (.builtin "object.__setattr__")))
    (e3i : PySem.W.findIn K (.ref C3) "__init__" = some (some (.ref fI)))
    (e3k : PySem.W.keepIn K (.ref C3) = true)
    (e3t : PySem.W.typeIn K (.ref C3) = some (.type "type"))
    (e3u : PySem.W.mroIn K C3 (.ref C0) = some true)
    (e3w : PySem.W.ks_superIn K C3 C0 "__init__" = some (some (.builtin "ValueError.__init__")))
    (e3v : PySem.W.subIn K (.ref C3) (.type "ValueError") = some true)
    (e3q : PySem.W.excInitIn K C3 veBases "ValueError.__new__" = true)
    (e3y : PySem.W.kitOne K (.ref C3) (.type "ValueError") = some true)
    (e3A0 : PySem.W.kitOne K (.ref C3) (.ref C0) = some true)
    (e3B0 : PySem.W.exmOne K (.ref C3) (.ref C0) = some true)
    (e3A1 : PySem.W.kitOne K (.ref C3) (.ref C1) = some false)
    (e3B1 : PySem.W.exmOne K (.ref C3) (.ref C1) = some false)
    (e3A2 : PySem.W.kitOne K (.ref C3) (.ref C2) = some false)
    (e3B2 : PySem.W.exmOne K (.ref C3) (.ref C2) = some false)
    (e3A3 : PySem.W.kitOne K (.ref C3) (.ref C3) = some true)
    (e3B3 : PySem.W.exmOne K (.ref C3) (.ref C3) = some true)
    (e3A4 : PySem.W.kitOne K (.ref C3) (.ref C4) = some false)
    (e3B4 : PySem.W.exmOne K (.ref C3) (.ref C4) = some false)
    (e3P0 : PySem.W.kitOne K (.type "NoneType") (.ref C3) = some false)
    (e3P1 : PySem.W.kitOne K (.type "bool") (.ref C3) = some false)
    (e3P2 : PySem.W.kitOne K (.type "int") (.ref C3) = some false)
    (e3P3 : PySem.W.kitOne K (.type "str") (.ref C3) = some false)
    (e3P4 : PySem.W.kitOne K (.type "tuple") (.ref C3) = some false)
    (e3P5 : PySem.W.kitOne K (.type "list") (.ref C3) = some false)
    (e3P6 : PySem.W.kitOne K (.type "dict") (.ref C3) = some false)
    (e4x : K.lookup C4 = some (PySem.excClassObj nm4 qn4 C4 ns4 bs4 [.ref C0, .type "ValueError", .type "Exception", .type "BaseException", .type "object"] true sn4 su4 ab4 co4 dd4 u40 u41 u42 u43 u45 "ValueError.__new__"))
    (e4g : PySem.W.findIn K (.ref C4) "__getattribute__" = some (some (.builtin "BaseException.__getattribute__")))
    (e4h : PySem.W.findIn K (.ref C4) "__getattr__" = some none)
    (e4b : PySem.W.subIn K (.ref C4) (.type "BaseException") = some true)
    (e4d : PySem.W.hasDictIn K C4 = true)
    (e4c : PySem.W.findIn K (.ref C4) "__class__" = some (some (.builtin "object.__class__")))
    (e4m : PySem.W.mroIn K C4 (.type "object") = some true)
    (e4n : PySem.W.findIn K (.ref C4) "value" = some none)
    (e4s : PySem.W.findIn K (.ref C4) "__setattr__" = some (some (.builtin "object.__setattr__")))
    (e4i : PySem.W.findIn K (.ref C4) "__init__" = some (some (.ref fI)))
    (e4k : PySem.W.keepIn K (.ref C4) = true)
    (e4t : PySem.W.typeIn K (.ref C4) = some (.type "type"))
    (e4u : PySem.W.mroIn K C4 (.ref C0) = some true)
    (e4w : PySem.W.ks_superIn K C4 C0 "__init__" = some (some (.builtin "ValueError.__init__")))
    (e4v : PySem.W.subIn K (.ref C4) (.type "ValueError") = some true)
    (e4q : PySem.W.excInitIn K C4 veBases "ValueError.__new__" = true)
    (e4y : PySem.W.kitOne K (.ref C4) (.type "ValueError") = some true)
    (e4A0 : PySem.W.kitOne K (.ref C4) (.ref C0) = some true)
    (e4B0 : PySem.W.exmOne K (.ref C4) (.ref C0) = some true)
    (e4A1 : PySem.W.kitOne K (.ref C4) (.ref C1) = some false)
    (e4B1 : PySem.W.exmOne K (.ref C4) (.ref C1) = some false)
    (e4A2 : PySem.W.kitOne K (.ref C4) (.ref C2) = some false)
    (e4B2 : PySem.W.exmOne K (.ref C4) (.ref C2) = some false)
    (e4A3 : PySem.W.kitOne K (.ref C4) (.ref C3) = some false)
    (e4B3 : PySem.W.exmOne K (.ref C4) (.ref C3) = some false)
    (e4A4 : PySem.W.kitOne K (.ref C4) (.ref C4) = some true)
    (e4B4 : PySem.W.exmOne K (.ref C4) (.ref C4) = some true)
    (e4P0 : PySem.W.kitOne K (.type "NoneType") (.ref C4) = some false)
    (e4P1 : PySem.W.kitOne K (.type "bool") (.ref C4) = some false)
    (e4P2 : PySem.W.kitOne K (.type "int") (.ref C4) = some false)
    (e4P3 : PySem.W.kitOne K (.type "str") (.ref C4) = some false)
    (e4P4 : PySem.W.kitOne K (.type "tuple") (.ref C4) = some false)
    (e4P5 : PySem.W.kitOne K (.type "list") (.ref C4) = some false)
    (e4P6 : PySem.W.kitOne K (.type "dict") (.ref C4) = some false)
    (j1 : PySem.W.specialIn K (.builtin "object.__class__") "__get__" = some (some (.builtin "getset_descriptor.__get__")))
    (j2 : PySem.W.takesIn K (.builtin "object.__class__") = some true)
    (j3 : PySem.W.typeIn K (.ref fI) = some (.type "function"))
    (j4 : K.lookup fI = some ⟨jo, jp, .func (PySem.W.ksFn "__init__" "JobError.__init__" (L2.defArgs (inner (top 2))) (defBody (inner (top 2))) (defScope (inner (top 2))) .none .none jd jm ja (.ref cda) jt cc), js⟩)
    (j5 : PySem.W.codeIn K (.ref cda) "JobError.__init__" = true)
    (j6 : K.lookup cda = some ⟨jc, je, .fields jv, jz⟩)
    (j7 : jv[2]? = some (.str jf jk))
    (j8 : ((pw.main.file : Str) == jf) = true)
    (j9 : K.lookup cc = some ⟨jl, jg, .cell (some (.ref C0)), jh⟩)
    (j10 : PySem.W.isClsIn K C0 = true)
    (j11 : PySem.W.nsIn K mainGlobals "super" = some none)
    (j13 : PySem.W.nsIn K cStatics "thirdparty.any" = some none)
    : ∃ (fd : FuncData) (sp : L2.Sp) (cs : List (Addr × Addr)), (∀ (s : Shared) (u : Value), BindsTo s fd ⟨[u], []⟩ [("script", u)]) ∧ (∀ p ∈ cs, PySem.W.CodeHd h p.1 p.2 ∧ h.get? p.2 = some (PySem.W.tabObj #[]) ∧ K.lookup p.2 = none) ∧
      (∀ base : Heap, K.In base → base.Ns mainGlobals mg → (∀ p ∈ cs, LamX.TabB base mg p.1 p.2) → FnG pw w K mg base 77 fa fd ["script"] sp) ∧
      ∀ (H : L2.Hp) (a : Addr) (ns : List Int), ns.length ≤ 63 → OnlyT cs H → L2.SqL K H a (ns.map L2.V.int) → sp [.ref a] H (fun v _ => v = .bl true) fun _ _ _ => False := by
  have e := hfa.symm.trans (PySem.W.mg_of X G a59)
  cases e
  obtain ⟨cad, hcad⟩ : ∃ cad : Cad, cad = ⟨fun c => if 1000 ≤ c then [I0, I1, I2].getD (c - 1000) I0 else (fun c => [C0, C1, C2, C3, C4].getD c C0) c, []⟩ := ⟨_, rfl⟩
  have F0 := L2.fun_mk (st := (top 11)) l0 c0 k0
  have b0 := F0.binds (ps := ["value"]) fun _ _ _ _ _ _ us hl => match us, hl with | [_], _ => rfl
  have F1 := L2.fun_mk (st := (top 12)) l1 c1 k1
  have b1 := F1.binds (ps := ["value", "least", "most"]) fun _ _ _ _ _ _ us hl => match us, hl with | [_, _, _], _ => rfl
  have F2 := L2.fun_mk (st := (top 13)) l2 c2 k2
  have b2 := F2.binds (ps := ["value"]) fun _ _ _ _ _ _ us hl => match us, hl with | [_], _ => rfl
  have F3 := L2.fun_mk (st := (top 14)) l3 c3 k3
  have b3 := F3.binds (ps := ["word"]) fun _ _ _ _ _ _ us hl => match us, hl with | [_], _ => rfl
  have F4 := L2.fun_mk (st := (top 15)) l4 c4 k4
  have b4 := F4.binds (ps := ["one", "other"]) fun _ _ _ _ _ _ us hl => match us, hl with | [_, _], _ => rfl
  have F5 := L2.fun_mk (st := (top 24)) l5 c5 k5
  have b5 := F5.binds (ps := ["value"]) fun _ _ _ _ _ _ us hl => match us, hl with | [_], _ => rfl
  have F6 := L2.fun_mk (st := (top 25)) l6 c6 k6
  have b6 := F6.binds (ps := ["time"]) fun _ _ _ _ _ _ us hl => match us, hl with | [_], _ => rfl
  have F7 := L2.fun_mk (st := (top 26)) l7 c7 k7
  have b7 := F7.binds (ps := ["year"]) fun _ _ _ _ _ _ us hl => match us, hl with | [_], _ => rfl
  have F8 := L2.fun_mk (st := (top 27)) l8 c8 k8
  have b8 := F8.binds (ps := ["year", "month"]) fun _ _ _ _ _ _ us hl => match us, hl with | [_, _], _ => rfl
  have F9 := L2.fun_mk (st := (top 28)) l9 c9 k9
  have b9 := F9.binds (ps := ["year"]) fun _ _ _ _ _ _ us hl => match us, hl with | [_], _ => rfl
  have F10 := L2.fun_mk (st := (top 29)) l10 c10 k10
  have b10 := F10.binds (ps := ["day"]) fun _ _ _ _ _ _ us hl => match us, hl with | [_], _ => rfl
  have F11 := L2.fun_mk (st := (top 30)) l11 c11 k11
  have b11 := F11.binds (ps := ["day"]) fun _ _ _ _ _ _ us hl => match us, hl with | [_], _ => rfl
  have F12 := L2.fun_mk (st := (top 43)) l12 c12 k12
  have b12 := F12.binds (ps := ["word", "least", "most"]) fun _ _ _ _ _ _ us hl => match us, hl with | [_, _, _], _ => rfl
  have F13 := L2.fun_mk (st := (top 44)) l13 c13 k13
  have b13 := F13.binds (ps := ["word", "least", "most"]) fun _ _ _ _ _ _ us hl => match us, hl with | [_, _, _], _ => rfl
  have F14 := L2.fun_mk (st := (top 45)) l14 c14 k14
  have b14 := F14.binds (ps := ["word", "least", "most"]) fun _ _ _ _ _ _ us hl => match us, hl with | [_, _, _], _ => rfl
  have F15 := L2.fun_mk (st := (top 49)) l15 c15 k15
  have b15 := F15.binds (ps := ["rules"]) fun _ _ _ _ _ _ us hl => match us, hl with | [_], _ => rfl
  have F16 := L2.fun_mk (st := (L2.inClass (top 48) 3)) l16 c16 k16
  have b16 := F16.binds (ps := ["self"]) fun _ _ _ _ _ _ us hl => match us, hl with | [_], _ => rfl
  have F17 := L2.fun_mk (st := (top 50)) l17 c17 k17
  have b17 := F17.binds (ps := ["rules", "job"]) fun _ _ _ _ _ _ us hl => match us, hl with | [_, _], _ => rfl
  have F18 := L2.fun_mk (st := (L2.inClass (top 48) 4)) l18 c18 k18
  have b18 := F18.binds (ps := ["self", "job"]) fun _ _ _ _ _ _ us hl => match us, hl with | [_, _], _ => rfl
  have F19 := L2.fun_mk (st := (L2.inClass (top 48) 5)) l19 c19 k19
  have b19 := F19.binds (ps := ["self", "job"]) fun _ _ _ _ _ _ us hl => match us, hl with | [_, _], _ => rfl
  have F20 := L2.fun_mk (st := (top 51)) l20 c20 k20
  have b20 := F20.binds (ps := ["rules", "job", "month", "number", "weekday"]) fun _ _ _ _ _ _ us hl => match us, hl with | [_, _, _, _, _], _ => rfl
  have F21 := L2.fun_mk (st := (top 53)) l21 c21 k21
  have b21 := F21.binds (ps := ["hours", "minutes"]) fun _ _ _ _ _ _ us hl => match us, hl with | [_, _], _ => rfl
  have F22 := L2.fun_mk (st := (top 52)) l22 c22 k22
  have b22 := F22.binds (ps := ["rules", "job"]) fun _ _ _ _ _ _ us hl => match us, hl with | [_, _], _ => rfl
  have F23 := L2.fun_mk (st := (top 54)) l23 c23 k23
  have b23 := F23.binds (ps := ["rules", "job"]) fun _ _ _ _ _ _ us hl => match us, hl with | [_, _], _ => rfl
  have F24 := L2.fun_mk (st := (top 55)) l24 c24 k24
  have b24 := F24.binds (ps := ["month"]) fun _ _ _ _ _ _ us hl => match us, hl with | [_], _ => rfl
  have F25 := L2.fun_mk (st := (top 56)) l25 c25 k25
  have b25 := F25.binds (ps := ["rules", "job"]) fun _ _ _ _ _ _ us hl => match us, hl with | [_, _], _ => rfl
  have F26 := L2.fun_mk (st := (top 59)) l26 c26 k26
  have b26 := F26.binds (ps := ["number", "round_of"]) fun _ _ _ _ _ _ us hl => match us, hl with | [_, _], _ => rfl
  have F27 := L2.fun_mk (st := (top 58)) l27 c27 k27
  have b27 := F27.binds (ps := ["one", "other"]) fun _ _ _ _ _ _ us hl => match us, hl with | [_, _], _ => rfl
  have F28 := L2.fun_mk (st := (top 60)) l28 c28 k28
  have b28 := F28.binds (ps := ["rests"]) fun _ _ _ _ _ _ us hl => match us, hl with | [_], _ => rfl
  have F29 := L2.fun_mk (st := (top 69)) l29 c29 k29
  have b29 := F29.binds (ps := ["rules", "one", "other"]) fun _ _ _ _ _ _ us hl => match us, hl with | [_, _, _], _ => rfl
  have F30 := L2.fun_mk (st := (top 70)) l30 c30 k30
  have b30 := F30.binds (ps := ["rules", "one", "other"]) fun _ _ _ _ _ _ us hl => match us, hl with | [_, _, _], _ => rfl
  have F31 := L2.fun_mk (st := (L2.inClass (top 68) 3)) l31 c31 k31
  have b31 := F31.binds (ps := ["self", "year", "month", "begin"]) fun _ _ _ _ _ _ us hl => match us, hl with | [_, _, _, _], _ => rfl
  have F32 := L2.fun_mk (st := (L2.inClass (top 68) 2)) l32 c32 k32
  have b32 := F32.binds (ps := ["self", "day"]) fun _ _ _ _ _ _ us hl => match us, hl with | [_, _], _ => rfl
  have F33 := L2.fun_mk (st := (L2.inClass (top 68) 4)) l33 c33 k33
  have b33 := F33.binds (ps := ["self", "time"]) fun _ _ _ _ _ _ us hl => match us, hl with | [_, _], _ => rfl
  have F34 := L2.fun_mk (st := (L2.inClass (top 68) 1)) l34 c34 k34
  have b34 := F34.binds (ps := ["self"]) fun _ _ _ _ _ _ us hl => match us, hl with | [_], _ => rfl
  have F35 := L2.fun_mk (st := (L2.inClass (top 68) 0)) l35 c35 k35
  have b35 := F35.binds (ps := ["self", "rules", "jobs"]) fun _ _ _ _ _ _ us hl => match us, hl with | [_, _, _], _ => rfl
  have F36 := L2.fun_mk (st := (top 71)) l36 c36 k36
  have b36 := F36.binds (ps := ["rules", "one", "other"]) fun _ _ _ _ _ _ us hl => match us, hl with | [_, _, _], _ => rfl
  have F37 := L2.fun_mk (st := (top 72)) l37 c37 k37
  have b37 := F37.binds (ps := ["rules", "one", "other", "time"]) fun _ _ _ _ _ _ us hl => match us, hl with | [_, _, _, _], _ => rfl
  have F38 := L2.fun_mk (st := (L2.inClass (top 68) 6)) l38 c38 k38
  have b38 := F38.binds (ps := ["self", "day", "some"]) fun _ _ _ _ _ _ us hl => match us, hl with | [_, _, _], _ => rfl
  have F39 := L2.fun_mk (st := (L2.inClass (top 68) 5)) l39 c39 k39
  have b39 := F39.binds (ps := ["self"]) fun _ _ _ _ _ _ us hl => match us, hl with | [_], _ => rfl
  have F40 := L2.fun_mk (st := (top 73)) l40 c40 k40
  have b40 := F40.binds (ps := ["rules", "one", "other"]) fun _ _ _ _ _ _ us hl => match us, hl with | [_, _, _], _ => rfl
  have F41 := L2.fun_mk (st := (top 75)) l41 c41 k41
  have b41 := F41.binds (ps := ["script", "place"]) fun _ _ _ _ _ _ us hl => match us, hl with | [_, _], _ => rfl
  have F42 := L2.fun_mk (st := (top 76)) l42 c42 k42
  have b42 := F42.binds (ps := ["pot", "upto"]) fun _ _ _ _ _ _ us hl => match us, hl with | [_, _], _ => rfl
  have F43 := L2.fun_mk (st := (top 77)) l43 c43 k43
  have b43 := F43.binds (ps := ["pot", "some"]) fun _ _ _ _ _ _ us hl => match us, hl with | [_, _], _ => rfl
  have F44 := L2.fun_mk (st := (top 78)) l44 c44 k44
  have b44 := F44.binds (ps := ["script", "most"]) fun _ _ _ _ _ _ us hl => match us, hl with | [_, _], _ => rfl
  have F45 := L2.fun_mk (st := (top 79)) l45 c45 k45
  have b45 := F45.binds (ps := ["pot", "pool", "many"]) fun _ _ _ _ _ _ us hl => match us, hl with | [_, _, _], _ => rfl
  have F46 := L2.fun_mk (st := (top 80)) l46 c46 k46
  have b46 := F46.binds (ps := ["pot", "some"]) fun _ _ _ _ _ _ us hl => match us, hl with | [_, _], _ => rfl
  have F47 := L2.fun_mk (st := (top 81)) l47 c47 k47
  have b47 := F47.binds (ps := ["pot", "many"]) fun _ _ _ _ _ _ us hl => match us, hl with | [_, _], _ => rfl
  have F48 := L2.fun_mk (st := (top 82)) l48 c48 k48
  have b48 := F48.binds (ps := ["one", "other"]) fun _ _ _ _ _ _ us hl => match us, hl with | [_, _], _ => rfl
  have F49 := L2.fun_mk (st := (top 83)) l49 c49 k49
  have b49 := F49.binds (ps := ["pot"]) fun _ _ _ _ _ _ us hl => match us, hl with | [_], _ => rfl
  have F50 := L2.fun_mk (st := (top 84)) l50 c50 k50
  have b50 := F50.binds (ps := ["one", "other"]) fun _ _ _ _ _ _ us hl => match us, hl with | [_, _], _ => rfl
  have F51 := L2.fun_mk (st := (L2.inClass (top 46) 0)) l51 c51 k51
  have b51 := F51.binds (ps := ["self"]) fun _ _ _ _ _ _ us hl => match us, hl with | [_], _ => rfl
  have F52 := L2.fun_mk (st := (L2.inClass (top 46) 5)) l52 c52 k52
  have b52 := F52.binds (ps := ["self"]) fun _ _ _ _ _ _ us hl => match us, hl with | [_], _ => rfl
  have F53 := L2.fun_mk (st := (L2.inClass (top 46) 4)) l53 c53 k53
  have b53 := F53.binds (ps := ["self", "words"]) fun _ _ _ _ _ _ us hl => match us, hl with | [_, _], _ => rfl
  have F54 := L2.fun_mk (st := (L2.inClass (top 46) 2)) l54 c54 k54
  have b54 := F54.binds (ps := ["self", "name", "words"]) fun _ _ _ _ _ _ us hl => match us, hl with | [_, _, _], _ => rfl
  have F55 := L2.fun_mk (st := (L2.inClass (top 46) 3)) l55 c55 k55
  have b55 := F55.binds (ps := ["self", "name", "word", "words"]) fun _ _ _ _ _ _ us hl => match us, hl with | [_, _, _, _], _ => rfl
  have F56 := L2.fun_mk (st := (L2.inClass (top 46) 1)) l56 c56 k56
  have b56 := F56.binds (ps := ["self", "line"]) fun _ _ _ _ _ _ us hl => match us, hl with | [_, _], _ => rfl
  have F57 := L2.fun_mk (st := (L2.inClass (top 48) 0)) l57 c57 k57
  have b57 := F57.binds (ps := ["self", "text"]) fun _ _ _ _ _ _ us hl => match us, hl with | [_, _], _ => rfl
  have F58 := L2.fun_mk (st := (top 85)) l58 c58 k58
  have b58 := F58.binds (ps := ["pot"]) fun _ _ _ _ _ _ us hl => match us, hl with | [_], _ => rfl
  have F59 := L2.fun_mk (st := (top 86)) l59 c59 k59
  have b59 := F59.binds (ps := ["script"]) fun _ _ _ _ _ _ us hl => match us, hl with | [_], _ => rfl
  have hbi : ∀ n ∈ biNames, mg n = none := List.forall_mem_cons.mpr ⟨PySem.W.mg_none_of X G z0, List.forall_mem_cons.mpr ⟨PySem.W.mg_none_of X G z1, List.forall_mem_cons.mpr ⟨PySem.W.mg_none_of X G z2, List.forall_mem_cons.mpr ⟨PySem.W.mg_none_of X G z3, List.forall_mem_cons.mpr ⟨PySem.W.mg_none_of X G z4, List.forall_mem_cons.mpr ⟨PySem.W.mg_none_of X G z5, List.forall_mem_cons.mpr ⟨PySem.W.mg_none_of X G z6, List.forall_mem_cons.mpr ⟨PySem.W.mg_none_of X G z7, List.forall_mem_cons.mpr ⟨PySem.W.mg_none_of X G z8, List.forall_mem_cons.mpr ⟨PySem.W.mg_none_of X G z9, List.forall_mem_cons.mpr ⟨PySem.W.mg_none_of X G z10, List.forall_mem_cons.mpr ⟨PySem.W.mg_none_of X G z11, List.forall_mem_cons.mpr ⟨PySem.W.mg_none_of X G z12, List.forall_mem_cons.mpr ⟨PySem.W.mg_none_of X G z13, List.forall_mem_cons.mpr ⟨PySem.W.mg_none_of X G z14, List.forall_mem_cons.mpr ⟨PySem.W.mg_none_of X G z15, List.forall_mem_cons.mpr ⟨PySem.W.mg_none_of X G z16, List.forall_mem_cons.mpr ⟨PySem.W.mg_none_of X G z17, List.forall_mem_cons.mpr ⟨PySem.W.mg_none_of X G z18, List.forall_mem_cons.mpr ⟨PySem.W.mg_none_of X G z19, List.forall_mem_cons.mpr ⟨PySem.W.mg_none_of X G z20, fun _ h => (List.not_mem_nil h).elim⟩⟩⟩⟩⟩⟩⟩⟩⟩⟩⟩⟩⟩⟩⟩⟩⟩⟩⟩⟩⟩
  have x0 : ExcK K C0 := ⟨e0g, e0h, e0b, e0d, e0c, j1, j2, e0m, e0n⟩
  have y0 : CFacts pw K "JobError" C0 C0 fI cc cda _ := ⟨e0a, ⟨_, _, _, _, _, _, _, _, _, _, _, _, _, _, e0x⟩, rfl, x0, e0s, e0i, j3, e0k, e0t, e0u, e0w, e0v, e0q⟩
  have x1 : ExcK K C1 := ⟨e1g, e1h, e1b, e1d, e1c, j1, j2, e1m, e1n⟩
  have y1 : CFacts pw K "BadRules" C1 C0 fI cc cda _ := ⟨e1a, ⟨_, _, _, _, _, _, _, _, _, _, _, _, _, _, e1x⟩, rfl, x1, e1s, e1i, j3, e1k, e1t, e1u, e1w, e1v, e1q⟩
  have x2 : ExcK K C2 := ⟨e2g, e2h, e2b, e2d, e2c, j1, j2, e2m, e2n⟩
  have y2 : CFacts pw K "BadTime" C2 C0 fI cc cda _ := ⟨e2a, ⟨_, _, _, _, _, _, _, _, _, _, _, _, _, _, e2x⟩, rfl, x2, e2s, e2i, j3, e2k, e2t, e2u, e2w, e2v, e2q⟩
  have x3 : ExcK K C3 := ⟨e3g, e3h, e3b, e3d, e3c, j1, j2, e3m, e3n⟩
  have y3 : CFacts pw K "NoJob" C3 C0 fI cc cda _ := ⟨e3a, ⟨_, _, _, _, _, _, _, _, _, _, _, _, _, _, e3x⟩, rfl, x3, e3s, e3i, j3, e3k, e3t, e3u, e3w, e3v, e3q⟩
  have x4 : ExcK K C4 := ⟨e4g, e4h, e4b, e4d, e4c, j1, j2, e4m, e4n⟩
  have y4 : CFacts pw K "NoRules" C4 C0 fI cc cda _ := ⟨e4a, ⟨_, _, _, _, _, _, _, _, _, _, _, _, _, _, e4x⟩, rfl, x4, e4s, e4i, j3, e4k, e4t, e4u, e4w, e4v, e4q⟩
  have jf : JFacts pw K C0 fI cc cda := ⟨⟨_, _, _, _, _, _, _, _, _, _, _, _, _, _, _, _, _, _, _, rfl, j4, j5⟩, ⟨_, _, _, _, _, _, j6, j7, j8⟩, ⟨_, _, _, j9⟩, j10, j11, top_super, j13⟩
  have w0 : ClsK K mg cad cls.length sub 0 "JobError" := by
    subst hcad
    exact ⟨PySem.W.mg_of X G e0a, by decide, fun c hc => match c, hc with | 0, _ => e0A0 | 1, _ => e1A0 | 2, _ => e2A0 | 3, _ => e3A0 | 4, _ => e4A0 | z + 5, hz => absurd hz (by show ¬ (z + 5 < 5); omega), fun c hc => match c, hc with | 0, _ => e0B0 | 1, _ => e1B0 | 2, _ => e2B0 | 3, _ => e3B0 | 4, _ => e4B0 | z + 5, hz => absurd hz (by show ¬ (z + 5 < 5); omega), List.forall_mem_cons.mpr ⟨e0P0, List.forall_mem_cons.mpr ⟨e0P1, List.forall_mem_cons.mpr ⟨e0P2, List.forall_mem_cons.mpr ⟨e0P3, List.forall_mem_cons.mpr ⟨e0P4, List.forall_mem_cons.mpr ⟨e0P5, List.forall_mem_cons.mpr ⟨e0P6, fun _ h => (List.not_mem_nil h).elim⟩⟩⟩⟩⟩⟩⟩⟩
  have w1 : ClsK K mg cad cls.length sub 1 "BadRules" := by
    subst hcad
    exact ⟨PySem.W.mg_of X G e1a, by decide, fun c hc => match c, hc with | 0, _ => e0A1 | 1, _ => e1A1 | 2, _ => e2A1 | 3, _ => e3A1 | 4, _ => e4A1 | z + 5, hz => absurd hz (by show ¬ (z + 5 < 5); omega), fun c hc => match c, hc with | 0, _ => e0B1 | 1, _ => e1B1 | 2, _ => e2B1 | 3, _ => e3B1 | 4, _ => e4B1 | z + 5, hz => absurd hz (by show ¬ (z + 5 < 5); omega), List.forall_mem_cons.mpr ⟨e1P0, List.forall_mem_cons.mpr ⟨e1P1, List.forall_mem_cons.mpr ⟨e1P2, List.forall_mem_cons.mpr ⟨e1P3, List.forall_mem_cons.mpr ⟨e1P4, List.forall_mem_cons.mpr ⟨e1P5, List.forall_mem_cons.mpr ⟨e1P6, fun _ h => (List.not_mem_nil h).elim⟩⟩⟩⟩⟩⟩⟩⟩
  have w2 : ClsK K mg cad cls.length sub 2 "BadTime" := by
    subst hcad
    exact ⟨PySem.W.mg_of X G e2a, by decide, fun c hc => match c, hc with | 0, _ => e0A2 | 1, _ => e1A2 | 2, _ => e2A2 | 3, _ => e3A2 | 4, _ => e4A2 | z + 5, hz => absurd hz (by show ¬ (z + 5 < 5); omega), fun c hc => match c, hc with | 0, _ => e0B2 | 1, _ => e1B2 | 2, _ => e2B2 | 3, _ => e3B2 | 4, _ => e4B2 | z + 5, hz => absurd hz (by show ¬ (z + 5 < 5); omega), List.forall_mem_cons.mpr ⟨e2P0, List.forall_mem_cons.mpr ⟨e2P1, List.forall_mem_cons.mpr ⟨e2P2, List.forall_mem_cons.mpr ⟨e2P3, List.forall_mem_cons.mpr ⟨e2P4, List.forall_mem_cons.mpr ⟨e2P5, List.forall_mem_cons.mpr ⟨e2P6, fun _ h => (List.not_mem_nil h).elim⟩⟩⟩⟩⟩⟩⟩⟩
  have w3 : ClsK K mg cad cls.length sub 3 "NoJob" := by
    subst hcad
    exact ⟨PySem.W.mg_of X G e3a, by decide, fun c hc => match c, hc with | 0, _ => e0A3 | 1, _ => e1A3 | 2, _ => e2A3 | 3, _ => e3A3 | 4, _ => e4A3 | z + 5, hz => absurd hz (by show ¬ (z + 5 < 5); omega), fun c hc => match c, hc with | 0, _ => e0B3 | 1, _ => e1B3 | 2, _ => e2B3 | 3, _ => e3B3 | 4, _ => e4B3 | z + 5, hz => absurd hz (by show ¬ (z + 5 < 5); omega), List.forall_mem_cons.mpr ⟨e3P0, List.forall_mem_cons.mpr ⟨e3P1, List.forall_mem_cons.mpr ⟨e3P2, List.forall_mem_cons.mpr ⟨e3P3, List.forall_mem_cons.mpr ⟨e3P4, List.forall_mem_cons.mpr ⟨e3P5, List.forall_mem_cons.mpr ⟨e3P6, fun _ h => (List.not_mem_nil h).elim⟩⟩⟩⟩⟩⟩⟩⟩
  have w4 : ClsK K mg cad cls.length sub 4 "NoRules" := by
    subst hcad
    exact ⟨PySem.W.mg_of X G e4a, by decide, fun c hc => match c, hc with | 0, _ => e0A4 | 1, _ => e1A4 | 2, _ => e2A4 | 3, _ => e3A4 | 4, _ => e4A4 | z + 5, hz => absurd hz (by show ¬ (z + 5 < 5); omega), fun c hc => match c, hc with | 0, _ => e0B4 | 1, _ => e1B4 | 2, _ => e2B4 | 3, _ => e3B4 | 4, _ => e4B4 | z + 5, hz => absurd hz (by show ¬ (z + 5 < 5); omega), List.forall_mem_cons.mpr ⟨e4P0, List.forall_mem_cons.mpr ⟨e4P1, List.forall_mem_cons.mpr ⟨e4P2, List.forall_mem_cons.mpr ⟨e4P3, List.forall_mem_cons.mpr ⟨e4P4, List.forall_mem_cons.mpr ⟨e4P5, List.forall_mem_cons.mpr ⟨e4P6, fun _ h => (List.not_mem_nil h).elim⟩⟩⟩⟩⟩⟩⟩⟩
  have hex : ∀ c, c < cls.length → ExcK K (cad c) := by
    subst hcad
    exact fun c hc => match c, hc with | 0, _ => x0 | 1, _ => x1 | 2, _ => x2 | 3, _ => x3 | 4, _ => x4 | z + 5, hz => absurd hz (by show ¬ (z + 5 < 5); omega)
  have hve : ∀ c, c < cls.length → PySem.W.kitOne K (.ref (cad c)) (.type "ValueError") = some true := by
    subst hcad
    exact fun c hc => match c, hc with | 0, _ => e0y | 1, _ => e1y | 2, _ => e2y | 3, _ => e3y | 4, _ => e4y | z + 5, hz => absurd hz (by show ¬ (z + 5 < 5); omega)
  have hjb : ∀ (c : Nat) x, cls[c]? = some x → ∃ D fI cc cda, JobTxt pw K mg x (cad c) D fI cc cda := by
    subst hcad
    exact all_cons ⟨_, _, _, _, y0.job X G jf (by decide)⟩ (all_cons ⟨_, _, _, _, y1.job X G jf (by decide)⟩ (all_cons ⟨_, _, _, _, y2.job X G jf (by decide)⟩ (all_cons ⟨_, _, _, _, y3.job X G jf (by decide)⟩ (all_cons ⟨_, _, _, _, y4.job X G jf (by decide)⟩ (all_nil)))))
  have vc0 : L2.Cls K I0 := ⟨v0pg, v0hd, v0po, v0sa⟩
  have vc1 : L2.Cls K I1 := ⟨v1pg, v1hd, v1po, v1sa⟩
  have vc2 : L2.Cls K I2 := ⟨v2pg, v2hd, v2po, v2sa⟩
  have hats : AtsOk K cad ats := by
    subst hcad
    exact List.forall_mem_cons.mpr ⟨⟨vc0, v0N0⟩, List.forall_mem_cons.mpr ⟨⟨vc0, v0N1⟩, List.forall_mem_cons.mpr ⟨⟨vc0, v0N2⟩, List.forall_mem_cons.mpr ⟨⟨vc1, v1N3⟩, List.forall_mem_cons.mpr ⟨⟨vc1, v1N4⟩, List.forall_mem_cons.mpr ⟨⟨vc1, v1N5⟩, List.forall_mem_cons.mpr ⟨⟨vc1, v1N6⟩, List.forall_mem_cons.mpr ⟨⟨vc1, v1N7⟩, List.forall_mem_cons.mpr ⟨⟨vc2, v2N8⟩, List.forall_mem_cons.mpr ⟨⟨vc2, v2N9⟩, List.forall_mem_cons.mpr ⟨⟨vc2, v2N10⟩, List.forall_mem_cons.mpr ⟨⟨vc2, v2N11⟩, List.forall_mem_cons.mpr ⟨⟨vc2, v2N12⟩, List.forall_mem_cons.mpr ⟨⟨vc2, v2N13⟩, List.forall_mem_cons.mpr ⟨⟨vc2, v2N14⟩, fun _ h => (List.not_mem_nil h).elim⟩⟩⟩⟩⟩⟩⟩⟩⟩⟩⟩⟩⟩⟩⟩
  have hins : ∀ p ∈ ins, InsC K mg cad p.1 p.2 := by
    subst hcad
    exact List.forall_mem_cons.mpr ⟨⟨PySem.W.mg_of X G v0a, by decide, v0ks, List.forall_mem_cons.mpr ⟨v0P0, List.forall_mem_cons.mpr ⟨v0P1, List.forall_mem_cons.mpr ⟨v0P2, List.forall_mem_cons.mpr ⟨v0P3, List.forall_mem_cons.mpr ⟨v0P4, List.forall_mem_cons.mpr ⟨v0P5, List.forall_mem_cons.mpr ⟨v0P6, fun _ h => (List.not_mem_nil h).elim⟩⟩⟩⟩⟩⟩⟩, vc0, v0cc, j1, j2, v0mo⟩, List.forall_mem_cons.mpr ⟨⟨PySem.W.mg_of X G v1a, by decide, v1ks, List.forall_mem_cons.mpr ⟨v1P0, List.forall_mem_cons.mpr ⟨v1P1, List.forall_mem_cons.mpr ⟨v1P2, List.forall_mem_cons.mpr ⟨v1P3, List.forall_mem_cons.mpr ⟨v1P4, List.forall_mem_cons.mpr ⟨v1P5, List.forall_mem_cons.mpr ⟨v1P6, fun _ h => (List.not_mem_nil h).elim⟩⟩⟩⟩⟩⟩⟩, vc1, v1cc, j1, j2, v1mo⟩, List.forall_mem_cons.mpr ⟨⟨PySem.W.mg_of X G v2a, by decide, v2ks, List.forall_mem_cons.mpr ⟨v2P0, List.forall_mem_cons.mpr ⟨v2P1, List.forall_mem_cons.mpr ⟨v2P2, List.forall_mem_cons.mpr ⟨v2P3, List.forall_mem_cons.mpr ⟨v2P4, List.forall_mem_cons.mpr ⟨v2P5, List.forall_mem_cons.mpr ⟨v2P6, fun _ h => (List.not_mem_nil h).elim⟩⟩⟩⟩⟩⟩⟩, vc2, v2cc, j1, j2, v2mo⟩, fun _ h => (List.not_mem_nil h).elim⟩⟩⟩
  have at16 : AtN K cad mg FRules_jobs f16 := by
    subst hcad
    exact ⟨vc1, pp16, ⟨m16a, m16g, m16t, ⟨_, m16r⟩⟩⟩
  have at18 : AtN K cad mg FRules_rule_of f18 := by
    subst hcad
    exact ⟨vc1, ⟨m18a, m18f, k18⟩⟩
  have at19 : AtN K cad mg FRules_stars_of f19 := by
    subst hcad
    exact ⟨vc1, ⟨m19a, m19f, k19⟩⟩
  have at31 : AtN K cad mg FMeeting_days_from f31 := by
    subst hcad
    exact ⟨vc2, ⟨m31a, m31f, k31⟩⟩
  have at32 : AtN K cad mg FMeeting_minutes_on f32 := by
    subst hcad
    exact ⟨vc2, ⟨m32a, m32f, k32⟩⟩
  have at33 : AtN K cad mg FMeeting_first f33 := by
    subst hcad
    exact ⟨vc2, ⟨m33a, m33f, k33⟩⟩
  have at34 : AtN K cad mg FMeeting_by_rest f34 := by
    subst hcad
    exact ⟨vc2, ⟨m34a, m34f, k34⟩⟩
  have at35 : AtN K cad mg FMeeting___init__ f35 := by
    subst hcad
    exact ⟨PySem.W.mg_of X G v2a, ⟨v2mk, m35a, m35f, v2kp⟩⟩
  have at38 : AtN K cad mg FMeeting_behind f38 := by
    subst hcad
    exact ⟨vc2, ⟨m38a, m38f, k38⟩⟩
  have at39 : AtN K cad mg FMeeting_count f39 := by
    subst hcad
    exact ⟨vc2, ⟨m39a, m39f, k39⟩⟩
  have at51 : AtN K cad mg FRuleReader___init__ f51 := by
    subst hcad
    exact ⟨PySem.W.mg_of X G v0a, ⟨v0mk, m51a, m51f, v0kp⟩⟩
  have at52 : AtN K cad mg FRuleReader_found f52 := by
    subst hcad
    exact ⟨vc0, ⟨m52a, m52f, k52⟩⟩
  have at53 : AtN K cad mg FRuleReader_takes_long f53 := by
    subst hcad
    exact ⟨vc0, ⟨m53a, m53f, k53⟩⟩
  have at54 : AtN K cad mg FRuleReader_takes_each f54 := by
    subst hcad
    exact ⟨vc0, ⟨m54a, m54f, k54⟩⟩
  have at55 : AtN K cad mg FRuleReader_takes_fields f55 := by
    subst hcad
    exact ⟨vc0, ⟨m55a, m55f, k55⟩⟩
  have at56 : AtN K cad mg FRuleReader_takes f56 := by
    subst hcad
    exact ⟨vc0, ⟨m56a, m56f, k56⟩⟩
  have at57 : AtN K cad mg FRules___init__ f57 := by
    subst hcad
    exact ⟨PySem.W.mg_of X G v1a, ⟨v1mk, m57a, m57f, v1kp⟩⟩
  have m0 : Mo0 cst cls sub ats ins pw K cad mg := ⟨all_cons (cst_str X G (by decide) q0) (all_cons (cst_str X G (by decide) q1) (all_cons (cst_int X G (by decide) q2) (all_cons (cst_int X G (by decide) q3) (all_cons (cst_int X G (by decide) q4) (all_cons (cst_int X G (by decide) q5) (all_cons (cst_int X G (by decide) q6) (all_cons (cst_int X G (by decide) q7) (all_cons (cst_int X G (by decide) q8) (all_cons (cst_tup (ns := [31, 28, 31, 30, 31, 30, 31, 31, 30, 31, 30, 31]) X G (by decide) q9 q9l q9v (by decide)) (all_cons (cst_str X G (by decide) q10) (all_cons (cst_str X G (by decide) q11) (all_cons (cst_str X G (by decide) q12) (all_cons (cst_str X G (by decide) q13) (all_cons (cst_str X G (by decide) q14) (all_cons (cst_str X G (by decide) q15) (all_cons (cst_str X G (by decide) q16) (all_cons (cst_int X G (by decide) q17) (all_cons (cst_int X G (by decide) q18) (all_cons (cst_int X G (by decide) q19) (all_cons (cst_rows (rows := [[0, 59], [0, 23], [1, 31], [1, 12], [0, 6]]) X G (by decide) q20 q20l (by rw [q20v]; exact ⟨⟨_, _, _, _, _, rfl, q20r0l, q20r0v, by decide⟩, ⟨⟨_, _, _, _, _, rfl, q20r1l, q20r1v, by decide⟩, ⟨⟨_, _, _, _, _, rfl, q20r2l, q20r2v, by decide⟩, ⟨⟨_, _, _, _, _, rfl, q20r3l, q20r3v, by decide⟩, ⟨⟨_, _, _, _, _, rfl, q20r4l, q20r4v, by decide⟩, trivial⟩⟩⟩⟩⟩) (by decide)) (all_cons (cst_str X G (by decide) q21) (all_cons (cst_str X G (by decide) q22) (all_cons (cst_str X G (by decide) q23) (all_cons (cst_str X G (by decide) q24) (all_cons (cst_str X G (by decide) q25) (all_cons (cst_str X G (by decide) q26) (all_nil))))))))))))))))))))))))))), hbi, hex, all_cons w0 (all_cons w1 (all_cons w2 (all_cons w3 (all_cons w4 (all_nil))))), hve, hjb, hats, hins⟩
  refine ⟨PySem.W.fnOf "law" "law" (L2.defArgs (top 86)) (defBody (top 86)) (defScope (top 86)) .none kV59 dc59 pm59 an59 cd59 ct59, lsp ⟨K, cad⟩ Flaw, [], fun s v => .of_eq rfl, fun p hp => (List.not_mem_nil hp).elim, fun base _ _ tbs => ?_, fun H a ns hl ho hs => lsp_script rfl (by subst hcad; exact tabs_of ho rfl) hs (law_sp ns hl)⟩
  have n0 : ∀ (k : Nat) f, T0[k]? = some f → FnI pw w K cad mg base 0 f := fns_nil
  have i0 : FnI pw w K cad mg base 1 Fis_integer := fnI_of (m0.mo n0) F0 scis_integer ckis_integer okis_integer (fun z => absurd z (by decide)) (by decide) (PySem.W.mg_of X G a0) b0 (fun z => by cases z)
  have n1 : ∀ (k : Nat) f, T1[k]? = some f → FnI pw w K cad mg base 1 f := fns_snoc (l := T0) n0 i0
  have i1 : FnI pw w K cad mg base 2 Fis_between := fnI_of (m0.mo n1) F1 scis_between ckis_between okis_between (fun z => absurd z (by decide)) (by decide) (PySem.W.mg_of X G a1) b1 (fun z => by cases z)
  have n2 : ∀ (k : Nat) f, T2[k]? = some f → FnI pw w K cad mg base 2 f := fns_snoc (l := T1) n1 i1
  have i2 : FnI pw w K cad mg base 3 Fis_name := fnI_of (m0.mo n2) F2 scis_name ckis_name okis_name (fun z => absurd z (by decide)) (by decide) (PySem.W.mg_of X G a2) b2 (fun z => by cases z)
  have n3 : ∀ (k : Nat) f, T3[k]? = some f → FnI pw w K cad mg base 3 f := fns_snoc (l := T2) n2 i2
  have i3 : FnI pw w K cad mg base 4 Fread_integer := fnI_of (m0.mo n3) F3 scread_integer ckread_integer okread_integer (fun z => absurd z (by decide)) (by decide) (PySem.W.mg_of X G a3) b3 (fun z => by cases z)
  have n4 : ∀ (k : Nat) f, T4[k]? = some f → FnI pw w K cad mg base 4 f := fns_snoc (l := T3) n3 i3
  have i4 : FnI pw w K cad mg base 5 Fcommon := fnI_of (m0.mo n4) F4 sccommon ckcommon okcommon (fun z => absurd z (by decide)) (by decide) (PySem.W.mg_of X G a4) b4 (fun z => by cases z)
  have n5 : ∀ (k : Nat) f, T5[k]? = some f → FnI pw w K cad mg base 5 f := fns_snoc (l := T4) n4 i4
  have i5 : FnI pw w K cad mg base 6 Fis_time := fnI_of (m0.mo n5) F5 scis_time ckis_time okis_time (fun z => absurd z (by decide)) (by decide) (PySem.W.mg_of X G a5) b5 (fun z => by cases z)
  have n6 : ∀ (k : Nat) f, T6[k]? = some f → FnI pw w K cad mg base 6 f := fns_snoc (l := T5) n5 i5
  have i6 : FnI pw w K cad mg base 7 Fcheck_time := fnI_of (m0.mo n6) F6 sccheck_time ckcheck_time okcheck_time (fun z => absurd z (by decide)) (by decide) (PySem.W.mg_of X G a6) b6 (fun z => by cases z)
  have n7 : ∀ (k : Nat) f, T7[k]? = some f → FnI pw w K cad mg base 7 f := fns_snoc (l := T6) n6 i6
  have i7 : FnI pw w K cad mg base 8 Fis_long_year := fnI_of (m0.mo n7) F7 scis_long_year ckis_long_year okis_long_year (fun z => absurd z (by decide)) (by decide) (PySem.W.mg_of X G a7) b7 (fun z => by cases z)
  have n8 : ∀ (k : Nat) f, T8[k]? = some f → FnI pw w K cad mg base 8 f := fns_snoc (l := T7) n7 i7
  have i8 : FnI pw w K cad mg base 9 Fdays_in := fnI_of (m0.mo n8) F8 scdays_in ckdays_in okdays_in (fun z => absurd z (by decide)) (by decide) (PySem.W.mg_of X G a8) b8 (fun z => by cases z)
  have n9 : ∀ (k : Nat) f, T9[k]? = some f → FnI pw w K cad mg base 9 f := fns_snoc (l := T8) n8 i8
  have i9 : FnI pw w K cad mg base 10 Fdays_ahead := fnI_of (m0.mo n9) F9 scdays_ahead ckdays_ahead okdays_ahead (fun z => absurd z (by decide)) (by decide) (PySem.W.mg_of X G a9) b9 (fun z => by cases z)
  have n10 : ∀ (k : Nat) f, T10[k]? = some f → FnI pw w K cad mg base 10 f := fns_snoc (l := T9) n9 i9
  have i10 : FnI pw w K cad mg base 11 Fdate_by := fnI_of (m0.mo n10) F10 scdate_by ckdate_by okdate_by (fun z => absurd z (by decide)) (by decide) (PySem.W.mg_of X G a10) b10 (fun z => by cases z)
  have n11 : ∀ (k : Nat) f, T11[k]? = some f → FnI pw w K cad mg base 11 f := fns_snoc (l := T10) n10 i10
  have i11 : FnI pw w K cad mg base 12 Fweekday_by := fnI_of (m0.mo n11) F11 scweekday_by ckweekday_by okweekday_by (fun z => absurd z (by decide)) (by decide) (PySem.W.mg_of X G a11) b11 (fun z => by cases z)
  have n12 : ∀ (k : Nat) f, T12[k]? = some f → FnI pw w K cad mg base 12 f := fns_snoc (l := T11) n11 i11
  have i12 : FnI pw w K cad mg base 13 Fread_part := fnI_of (m0.mo n12) F12 scread_part ckread_part okread_part (fun z => absurd z (by decide)) (by decide) (PySem.W.mg_of X G a12) b12 (fun z => by cases z)
  have n13 : ∀ (k : Nat) f, T13[k]? = some f → FnI pw w K cad mg base 13 f := fns_snoc (l := T12) n12 i12
  have i13 : FnI pw w K cad mg base 14 Fread_field := fnI_of (m0.mo n13) F13 scread_field ckread_field okread_field (fun z => absurd z (by decide)) (by decide) (PySem.W.mg_of X G a13) b13 (fun z => by cases z)
  have n14 : ∀ (k : Nat) f, T14[k]? = some f → FnI pw w K cad mg base 14 f := fns_snoc (l := T13) n13 i13
  have i14 : FnI pw w K cad mg base 15 Fread_number := fnI_of (m0.mo n14) F14 scread_number ckread_number okread_number (fun z => absurd z (by decide)) (by decide) (PySem.W.mg_of X G a14) b14 (fun z => by cases z)
  have n15 : ∀ (k : Nat) f, T15[k]? = some f → FnI pw w K cad mg base 15 f := fns_snoc (l := T14) n14 i14
  have i15 : FnI pw w K cad mg base 16 Fcheck_rules := fnI_of (m0.mo n15) F15 sccheck_rules ckcheck_rules okcheck_rules (fun z => absurd z (by decide)) (by decide) (PySem.W.mg_of X G a15) b15 (fun z => by cases z)
  have n16 : ∀ (k : Nat) f, T16[k]? = some f → FnI pw w K cad mg base 16 f := fns_snoc (l := T15) n15 i15
  have i16 : FnI pw w K cad mg base 18 FRules_jobs := fnM_of (m0.mo n16) F16 scRules_jobs ckRules_jobs okRules_jobs (fun z => absurd z (by decide)) (by decide) at16 b16 rfl
  have q16x : ∀ (k : Nat) f, T16[k]? = some f → FnI pw w K cad mg base 17 f := fun k f z => (n16 k f z).mono (by decide)
  have n17 : ∀ (k : Nat) f, T17[k]? = some f → FnI pw w K cad mg base 18 f := fns_snoc (l := T16) q16x i16
  have i17 : FnI pw w K cad mg base 19 Fcheck_job := fnI_of (m0.mo n17) F17 sccheck_job ckcheck_job okcheck_job (fun z => absurd z (by decide)) (by decide) (PySem.W.mg_of X G a17) b17 (fun z => by cases z)
  have n18 : ∀ (k : Nat) f, T18[k]? = some f → FnI pw w K cad mg base 19 f := fns_snoc (l := T17) n17 i17
  have i18 : FnI pw w K cad mg base 21 FRules_rule_of := fnM_of (m0.mo n18) F18 scRules_rule_of ckRules_rule_of okRules_rule_of (fun z => absurd z (by decide)) (by decide) at18 b18 rfl
  have q18x : ∀ (k : Nat) f, T18[k]? = some f → FnI pw w K cad mg base 20 f := fun k f z => (n18 k f z).mono (by decide)
  have n19 : ∀ (k : Nat) f, T19[k]? = some f → FnI pw w K cad mg base 21 f := fns_snoc (l := T18) q18x i18
  have i19 : FnI pw w K cad mg base 23 FRules_stars_of := fnM_of (m0.mo n19) F19 scRules_stars_of ckRules_stars_of okRules_stars_of (fun z => absurd z (by decide)) (by decide) at19 b19 rfl
  have q19x : ∀ (k : Nat) f, T19[k]? = some f → FnI pw w K cad mg base 22 f := fun k f z => (n19 k f z).mono (by decide)
  have n20 : ∀ (k : Nat) f, T20[k]? = some f → FnI pw w K cad mg base 23 f := fns_snoc (l := T19) q19x i19
  have i20 : FnI pw w K cad mg base 24 Ffits_in := fnI_of (m0.mo n20) F20 scfits_in ckfits_in okfits_in (fun z => absurd z (by decide)) (by decide) (PySem.W.mg_of X G a20) b20 (fun z => by cases z)
  have n21 : ∀ (k : Nat) f, T21[k]? = some f → FnI pw w K cad mg base 24 f := fns_snoc (l := T20) n20 i20
  have i21 : FnI pw w K cad mg base 25 Fby_hours := fnI_of (m0.mo n21) F21 scby_hours ckby_hours okby_hours (fun z => absurd z (by decide)) (by decide) (PySem.W.mg_of X G a21) b21 (fun z => by cases z)
  have n22 : ∀ (k : Nat) f, T22[k]? = some f → FnI pw w K cad mg base 25 f := fns_snoc (l := T21) n21 i21
  have i22 : FnI pw w K cad mg base 26 Fminutes_of := fnI_of (m0.mo n22) F22 scminutes_of ckminutes_of okminutes_of (fun z => absurd z (by decide)) (by decide) (PySem.W.mg_of X G a22) b22 (fun z => by cases z)
  have n23 : ∀ (k : Nat) f, T23[k]? = some f → FnI pw w K cad mg base 26 f := fns_snoc (l := T22) n22 i22
  have i23 : FnI pw w K cad mg base 27 Fis_each := fnI_of (m0.mo n23) F23 scis_each ckis_each okis_each (fun z => absurd z (by decide)) (by decide) (PySem.W.mg_of X G a23) b23 (fun z => by cases z)
  have n24 : ∀ (k : Nat) f, T24[k]? = some f → FnI pw w K cad mg base 27 f := fns_snoc (l := T23) n23 i23
  have i24 : FnI pw w K cad mg base 28 Flengths_of := fnI_of (m0.mo n24) F24 sclengths_of cklengths_of oklengths_of (fun z => absurd z (by decide)) (by decide) (PySem.W.mg_of X G a24) b24 (fun z => by cases z)
  have n25 : ∀ (k : Nat) f, T25[k]? = some f → FnI pw w K cad mg base 28 f := fns_snoc (l := T24) n24 i24
  have i25 : FnI pw w K cad mg base 29 Ftold_never := fnI_of (m0.mo n25) F25 sctold_never cktold_never oktold_never (fun z => absurd z (by decide)) (by decide) (PySem.W.mg_of X G a25) b25 (fun z => by cases z)
  have n26 : ∀ (k : Nat) f, T26[k]? = some f → FnI pw w K cad mg base 29 f := fns_snoc (l := T25) n25 i25
  have i26 : FnI pw w K cad mg base 30 Finverse := fnI_of (m0.mo n26) F26 scinverse ckinverse okinverse (fun z => absurd z (by decide)) (by decide) (PySem.W.mg_of X G a26) b26 (fun z => by cases z)
  have n27 : ∀ (k : Nat) f, T27[k]? = some f → FnI pw w K cad mg base 30 f := fns_snoc (l := T26) n26 i26
  have i27 : FnI pw w K cad mg base 31 Fput_together := fnI_of (m0.mo n27) F27 scput_together ckput_together okput_together (fun z => absurd z (by decide)) (by decide) (PySem.W.mg_of X G a27) b27 (fun z => by cases z)
  have n28 : ∀ (k : Nat) f, T28[k]? = some f → FnI pw w K cad mg base 31 f := fns_snoc (l := T27) n27 i27
  have i28 : FnI pw w K cad mg base 32 Fall_together := fnI_of (m0.mo n28) F28 scall_together ckall_together okall_together (fun z => absurd z (by decide)) (by decide) (PySem.W.mg_of X G a28) b28 (fun z => by cases z)
  have n29 : ∀ (k : Nat) f, T29[k]? = some f → FnI pw w K cad mg base 32 f := fns_snoc (l := T28) n28 i28
  have i29 : FnI pw w K cad mg base 33 Fcheck_two := fnI_of (m0.mo n29) F29 sccheck_two ckcheck_two okcheck_two (fun z => absurd z (by decide)) (by decide) (PySem.W.mg_of X G a29) b29 (fun z => by cases z)
  have n30 : ∀ (k : Nat) f, T30[k]? = some f → FnI pw w K cad mg base 33 f := fns_snoc (l := T29) n29 i29
  have i30 : FnI pw w K cad mg base 34 Fwhy_apart := fnI_of (m0.mo n30) F30 scwhy_apart ckwhy_apart okwhy_apart (fun z => absurd z (by decide)) (by decide) (PySem.W.mg_of X G a30) b30 (fun z => by cases z)
  have n31 : ∀ (k : Nat) f, T31[k]? = some f → FnI pw w K cad mg base 34 f := fns_snoc (l := T30) n30 i30
  have i31 : FnI pw w K cad mg base 36 FMeeting_days_from := fnM_of (m0.mo n31) F31 scMeeting_days_from ckMeeting_days_from okMeeting_days_from (fun z => absurd z (by decide)) (by decide) at31 b31 rfl
  have q31x : ∀ (k : Nat) f, T31[k]? = some f → FnI pw w K cad mg base 35 f := fun k f z => (n31 k f z).mono (by decide)
  have n32 : ∀ (k : Nat) f, T32[k]? = some f → FnI pw w K cad mg base 36 f := fns_snoc (l := T31) q31x i31
  have i32 : FnI pw w K cad mg base 38 FMeeting_minutes_on := fnM_of (m0.mo n32) F32 scMeeting_minutes_on ckMeeting_minutes_on okMeeting_minutes_on (fun z => absurd z (by decide)) (by decide) at32 b32 rfl
  have q32x : ∀ (k : Nat) f, T32[k]? = some f → FnI pw w K cad mg base 37 f := fun k f z => (n32 k f z).mono (by decide)
  have n33 : ∀ (k : Nat) f, T33[k]? = some f → FnI pw w K cad mg base 38 f := fns_snoc (l := T32) q32x i32
  have i33 : FnI pw w K cad mg base 40 FMeeting_first := fnM_of (m0.mo n33) F33 scMeeting_first ckMeeting_first okMeeting_first (fun z => absurd z (by decide)) (by decide) at33 b33 rfl
  have q33x : ∀ (k : Nat) f, T33[k]? = some f → FnI pw w K cad mg base 39 f := fun k f z => (n33 k f z).mono (by decide)
  have n34 : ∀ (k : Nat) f, T34[k]? = some f → FnI pw w K cad mg base 40 f := fns_snoc (l := T33) q33x i33
  have i34 : FnI pw w K cad mg base 42 FMeeting_by_rest := fnM_of (m0.mo n34) F34 scMeeting_by_rest ckMeeting_by_rest okMeeting_by_rest (fun z => absurd z (by decide)) (by decide) at34 b34 rfl
  have q34x : ∀ (k : Nat) f, T34[k]? = some f → FnI pw w K cad mg base 41 f := fun k f z => (n34 k f z).mono (by decide)
  have n35 : ∀ (k : Nat) f, T35[k]? = some f → FnI pw w K cad mg base 42 f := fns_snoc (l := T34) q34x i34
  have i35 : FnI pw w K cad mg base 44 FMeeting___init__ := fnM_of (m0.mo n35) F35 scMeeting___init__ ckMeeting___init__ okMeeting___init__ (fun z => absurd z (by decide)) (by decide) at35 b35 rfl
  have q35x : ∀ (k : Nat) f, T35[k]? = some f → FnI pw w K cad mg base 43 f := fun k f z => (n35 k f z).mono (by decide)
  have n36 : ∀ (k : Nat) f, T36[k]? = some f → FnI pw w K cad mg base 44 f := fns_snoc (l := T35) q35x i35
  have i36 : FnI pw w K cad mg base 45 Fmeet := fnI_of (m0.mo n36) F36 scmeet ckmeet okmeet (fun z => absurd z (by decide)) (by decide) (PySem.W.mg_of X G a36) b36 (fun _ s ws _ hl => match ws, hl with | [_, _, _], _ => .of_eq (by first | rfl | with_unfolding_all rfl))
  have n37 : ∀ (k : Nat) f, T37[k]? = some f → FnI pw w K cad mg base 45 f := fns_snoc (l := T36) n36 i36
  have i37 : FnI pw w K cad mg base 46 Fnext_meet := fnI_of (m0.mo n37) F37 scnext_meet cknext_meet oknext_meet (fun z => absurd z (by decide)) (by decide) (PySem.W.mg_of X G a37) b37 (fun _ s ws _ hl => match ws, hl with | [_, _, _, _], _ => .of_eq (by first | rfl | with_unfolding_all rfl))
  have n38 : ∀ (k : Nat) f, T38[k]? = some f → FnI pw w K cad mg base 46 f := fns_snoc (l := T37) n37 i37
  have i38 : FnI pw w K cad mg base 48 FMeeting_behind := fnM_of (m0.mo n38) F38 scMeeting_behind ckMeeting_behind okMeeting_behind (fun z => absurd z (by decide)) (by decide) at38 b38 rfl
  have q38x : ∀ (k : Nat) f, T38[k]? = some f → FnI pw w K cad mg base 47 f := fun k f z => (n38 k f z).mono (by decide)
  have n39 : ∀ (k : Nat) f, T39[k]? = some f → FnI pw w K cad mg base 48 f := fns_snoc (l := T38) q38x i38
  have i39 : FnI pw w K cad mg base 50 FMeeting_count := fnM_of (m0.mo n39) F39 scMeeting_count ckMeeting_count okMeeting_count (fun z => absurd z (by decide)) (by decide) at39 b39 rfl
  have q39x : ∀ (k : Nat) f, T39[k]? = some f → FnI pw w K cad mg base 49 f := fun k f z => (n39 k f z).mono (by decide)
  have n40 : ∀ (k : Nat) f, T40[k]? = some f → FnI pw w K cad mg base 50 f := fns_snoc (l := T39) q39x i39
  have i40 : FnI pw w K cad mg base 51 Fmeetings := fnI_of (m0.mo n40) F40 scmeetings ckmeetings okmeetings (fun z => absurd z (by decide)) (by decide) (PySem.W.mg_of X G a40) b40 (fun _ s ws _ hl => match ws, hl with | [_, _, _], _ => .of_eq (by first | rfl | with_unfolding_all rfl))
  have n41 : ∀ (k : Nat) f, T41[k]? = some f → FnI pw w K cad mg base 51 f := fns_snoc (l := T40) n40 i40
  have i41 : FnI pw w K cad mg base 52 F_law_pot := fnI_of (m0.mo n41) F41 sc_law_pot ck_law_pot ok_law_pot (fun z => absurd z (by decide)) (by decide) (PySem.W.mg_of X G a41) b41 (fun z => by cases z)
  have n42 : ∀ (k : Nat) f, T42[k]? = some f → FnI pw w K cad mg base 52 f := fns_snoc (l := T41) n41 i41
  have i42 : FnI pw w K cad mg base 53 F_law_take := fnI_of (m0.mo n42) F42 sc_law_take ck_law_take ok_law_take (fun z => absurd z (by decide)) (by decide) (PySem.W.mg_of X G a42) b42 (fun z => by cases z)
  have n43 : ∀ (k : Nat) f, T43[k]? = some f → FnI pw w K cad mg base 53 f := fns_snoc (l := T42) n42 i42
  have i43 : FnI pw w K cad mg base 54 F_law_of := fnI_of (m0.mo n43) F43 sc_law_of ck_law_of ok_law_of (fun z => absurd z (by decide)) (by decide) (PySem.W.mg_of X G a43) b43 (fun z => by cases z)
  have n44 : ∀ (k : Nat) f, T44[k]? = some f → FnI pw w K cad mg base 54 f := fns_snoc (l := T43) n43 i43
  have i44 : FnI pw w K cad mg base 55 F_law_cells := fnI_of (m0.mo n44) F44 sc_law_cells ck_law_cells ok_law_cells (fun z => absurd z (by decide)) (by decide) (PySem.W.mg_of X G a44) b44 (fun z => by cases z)
  have n45 : ∀ (k : Nat) f, T45[k]? = some f → FnI pw w K cad mg base 55 f := fns_snoc (l := T44) n44 i44
  have i45 : FnI pw w K cad mg base 56 F_law_some := fnI_of (m0.mo n45) F45 sc_law_some ck_law_some ok_law_some (fun z => absurd z (by decide)) (by decide) (PySem.W.mg_of X G a45) b45 (fun z => by cases z)
  have n46 : ∀ (k : Nat) f, T46[k]? = some f → FnI pw w K cad mg base 56 f := fns_snoc (l := T45) n45 i45
  have i46 : FnI pw w K cad mg base 57 F_law_name := fnI_of (m0.mo n46) F46 sc_law_name ck_law_name ok_law_name (fun z => absurd z (by decide)) (by decide) (PySem.W.mg_of X G a46) b46 (fun z => by cases z)
  have n47 : ∀ (k : Nat) f, T47[k]? = some f → FnI pw w K cad mg base 57 f := fns_snoc (l := T46) n46 i46
  have i47 : FnI pw w K cad mg base 58 F_law_names := fnI_of (m0.mo n47) F47 sc_law_names ck_law_names ok_law_names (fun z => absurd z (by decide)) (by decide) (PySem.W.mg_of X G a47) b47 (fun z => by cases z)
  have n48 : ∀ (k : Nat) f, T48[k]? = some f → FnI pw w K cad mg base 58 f := fns_snoc (l := T47) n47 i47
  have i48 : FnI pw w K cad mg base 59 F_law_common := fnI_of (m0.mo n48) F48 sc_law_common ck_law_common ok_law_common (fun z => absurd z (by decide)) (by decide) (PySem.W.mg_of X G a48) b48 (fun z => by cases z)
  have n49 : ∀ (k : Nat) f, T49[k]? = some f → FnI pw w K cad mg base 59 f := fns_snoc (l := T48) n48 i48
  have i49 : FnI pw w K cad mg base 60 F_law_two := fnI_of (m0.mo n49) F49 sc_law_two ck_law_two ok_law_two (fun z => absurd z (by decide)) (by decide) (PySem.W.mg_of X G a49) b49 (fun z => by cases z)
  have n50 : ∀ (k : Nat) f, T50[k]? = some f → FnI pw w K cad mg base 60 f := fns_snoc (l := T49) n49 i49
  have i50 : FnI pw w K cad mg base 61 F_law_met := fnI_of (m0.mo n50) F50 sc_law_met ck_law_met ok_law_met (fun z => absurd z (by decide)) (by decide) (PySem.W.mg_of X G a50) b50 (fun z => by cases z)
  have n51 : ∀ (k : Nat) f, T51[k]? = some f → FnI pw w K cad mg base 61 f := fns_snoc (l := T50) n50 i50
  have i51 : FnI pw w K cad mg base 63 FRuleReader___init__ := fnM_of (m0.mo n51) F51 scRuleReader___init__ ckRuleReader___init__ okRuleReader___init__ (fun z => absurd z (by decide)) (by decide) at51 b51 rfl
  have q51x : ∀ (k : Nat) f, T51[k]? = some f → FnI pw w K cad mg base 62 f := fun k f z => (n51 k f z).mono (by decide)
  have n52 : ∀ (k : Nat) f, T52[k]? = some f → FnI pw w K cad mg base 63 f := fns_snoc (l := T51) q51x i51
  have i52 : FnI pw w K cad mg base 65 FRuleReader_found := fnM_of (m0.mo n52) F52 scRuleReader_found ckRuleReader_found okRuleReader_found (fun z => absurd z (by decide)) (by decide) at52 b52 rfl
  have q52x : ∀ (k : Nat) f, T52[k]? = some f → FnI pw w K cad mg base 64 f := fun k f z => (n52 k f z).mono (by decide)
  have n53 : ∀ (k : Nat) f, T53[k]? = some f → FnI pw w K cad mg base 65 f := fns_snoc (l := T52) q52x i52
  have i53 : FnI pw w K cad mg base 67 FRuleReader_takes_long := fnM_of (m0.mo n53) F53 scRuleReader_takes_long ckRuleReader_takes_long okRuleReader_takes_long (fun z => absurd z (by decide)) (by decide) at53 b53 rfl
  have q53x : ∀ (k : Nat) f, T53[k]? = some f → FnI pw w K cad mg base 66 f := fun k f z => (n53 k f z).mono (by decide)
  have n54 : ∀ (k : Nat) f, T54[k]? = some f → FnI pw w K cad mg base 67 f := fns_snoc (l := T53) q53x i53
  have i54 : FnI pw w K cad mg base 69 FRuleReader_takes_each := fnM_of (m0.mo n54) F54 scRuleReader_takes_each ckRuleReader_takes_each okRuleReader_takes_each (fun z => absurd z (by decide)) (by decide) at54 b54 rfl
  have q54x : ∀ (k : Nat) f, T54[k]? = some f → FnI pw w K cad mg base 68 f := fun k f z => (n54 k f z).mono (by decide)
  have n55 : ∀ (k : Nat) f, T55[k]? = some f → FnI pw w K cad mg base 69 f := fns_snoc (l := T54) q54x i54
  have i55 : FnI pw w K cad mg base 71 FRuleReader_takes_fields := fnM_of (m0.mo n55) F55 scRuleReader_takes_fields ckRuleReader_takes_fields okRuleReader_takes_fields (fun z => absurd z (by decide)) (by decide) at55 b55 rfl
  have q55x : ∀ (k : Nat) f, T55[k]? = some f → FnI pw w K cad mg base 70 f := fun k f z => (n55 k f z).mono (by decide)
  have n56 : ∀ (k : Nat) f, T56[k]? = some f → FnI pw w K cad mg base 71 f := fns_snoc (l := T55) q55x i55
  have i56 : FnI pw w K cad mg base 73 FRuleReader_takes := fnM_of (m0.mo n56) F56 scRuleReader_takes ckRuleReader_takes okRuleReader_takes (fun z => absurd z (by decide)) (by decide) at56 b56 rfl
  have q56x : ∀ (k : Nat) f, T56[k]? = some f → FnI pw w K cad mg base 72 f := fun k f z => (n56 k f z).mono (by decide)
  have n57 : ∀ (k : Nat) f, T57[k]? = some f → FnI pw w K cad mg base 73 f := fns_snoc (l := T56) q56x i56
  have i57 : FnI pw w K cad mg base 75 FRules___init__ := fnM_of (m0.mo n57) F57 scRules___init__ ckRules___init__ okRules___init__ (fun z => absurd z (by decide)) (by decide) at57 b57 rfl
  have q57x : ∀ (k : Nat) f, T57[k]? = some f → FnI pw w K cad mg base 74 f := fun k f z => (n57 k f z).mono (by decide)
  have n58 : ∀ (k : Nat) f, T58[k]? = some f → FnI pw w K cad mg base 75 f := fns_snoc (l := T57) q57x i57
  have i58 : FnI pw w K cad mg base 76 F_law_right := fnI_of (m0.mo n58) F58 sc_law_right ck_law_right ok_law_right (fun z => absurd z (by decide)) (by decide) (PySem.W.mg_of X G a58) b58 (fun z => by cases z)
  have n59 : ∀ (k : Nat) f, T59[k]? = some f → FnI pw w K cad mg base 76 f := fns_snoc (l := T58) n58 i58
  exact def_ok (m0.mo n59) F59 sclaw cklaw oklaw (fun z => absurd z (by decide))
end K11
open PySem PySem.W PyProof.Rows
set_option maxHeartbeats 0 in
theorem PySem.Challenge.cw_againandagain_k11_whole_jobs_of_each_so_holds : PySem.Challenge.rw_againandagain_k11_whole_jobs_of_each_so.Holds := by
  w_on; o_law; k_head; (case hw => w_witness2)
  k_fill
  refine AA.walkG3 (l := PySem.Challenge.rw_againandagain_k11_whole_jobs_of_each_so) (n := 63) (k := 77) (x := "script") rfl (by decide) rfl ⟨rfl, by decide, by decide⟩ (fun w h Y => by first | exact PySem.W.kIn_of Y | exact PySem.W.km_in_of Y) ?F
  case F =>
    intro w mg fa h KX G TT hmg
    refine' K11.all_mk KX G TT hmg ?v0a ?v0pg ?v0hd ?v0po ?v0sa ?v0mk ?v0kp ?v0ks ?v0cc ?v0mo ?v0P0 ?v0P1 ?v0P2 ?v0P3 ?v0P4 ?v0P5 ?v0P6 ?v0N0 ?v0N1 ?v0N2 ?v1a ?v1pg ?v1hd ?v1po ?v1sa ?v1mk ?v1kp ?v1ks ?v1cc ?v1mo ?v1P0 ?v1P1 ?v1P2 ?v1P3 ?v1P4 ?v1P5 ?v1P6 ?v1N3 ?v1N4 ?v1N5 ?v1N6 ?v1N7 ?v2a ?v2pg ?v2hd ?v2po ?v2sa ?v2mk ?v2kp ?v2ks ?v2cc ?v2mo ?v2P0 ?v2P1 ?v2P2 ?v2P3 ?v2P4 ?v2P5 ?v2P6 ?v2N8 ?v2N9 ?v2N10 ?v2N11 ?v2N12 ?v2N13 ?v2N14 ?a0 ?l0 ?c0 ?k0 ?a1 ?l1 ?c1 ?k1 ?a2 ?l2 ?c2 ?k2 ?a3 ?l3 ?c3 ?k3 ?a4 ?l4 ?c4 ?k4 ?a5 ?l5 ?c5 ?k5 ?a6 ?l6 ?c6 ?k6 ?a7 ?l7 ?c7 ?k7 ?a8 ?l8 ?c8 ?k8 ?a9 ?l9 ?c9 ?k9 ?a10 ?l10 ?c10 ?k10 ?a11 ?l11 ?c11 ?k11 ?a12 ?l12 ?c12 ?k12 ?a13 ?l13 ?c13 ?k13 ?a14 ?l14 ?c14 ?k14 ?a15 ?l15 ?c15 ?k15 ?m16a ?m16g ?m16t ?m16r ?l16 ?c16 ?k16 ?m16f ?a17 ?l17 ?c17 ?k17 ?m18a ?l18 ?c18 ?k18 ?m18f ?m19a ?l19 ?c19 ?k19 ?m19f ?a20 ?l20 ?c20 ?k20 ?a21 ?l21 ?c21 ?k21 ?a22 ?l22 ?c22 ?k22 ?a23 ?l23 ?c23 ?k23 ?a24 ?l24 ?c24 ?k24 ?a25 ?l25 ?c25 ?k25 ?a26 ?l26 ?c26 ?k26 ?a27 ?l27 ?c27 ?k27 ?a28 ?l28 ?c28 ?k28 ?a29 ?l29 ?c29 ?k29 ?a30 ?l30 ?c30 ?k30 ?m31a ?l31 ?c31 ?k31 ?m31f ?m32a ?l32 ?c32 ?k32 ?m32f ?m33a ?l33 ?c33 ?k33 ?m33f ?m34a ?l34 ?c34 ?k34 ?m34f ?m35a ?l35 ?c35 ?k35 ?m35f ?a36 ?l36 ?c36 ?k36 ?a37 ?l37 ?c37 ?k37 ?m38a ?l38 ?c38 ?k38 ?m38f ?m39a ?l39 ?c39 ?k39 ?m39f ?a40 ?l40 ?c40 ?k40 ?a41 ?l41 ?c41 ?k41 ?a42 ?l42 ?c42 ?k42 ?a43 ?l43 ?c43 ?k43 ?a44 ?l44 ?c44 ?k44 ?a45 ?l45 ?c45 ?k45 ?a46 ?l46 ?c46 ?k46 ?a47 ?l47 ?c47 ?k47 ?a48 ?l48 ?c48 ?k48 ?a49 ?l49 ?c49 ?k49 ?a50 ?l50 ?c50 ?k50 ?m51a ?l51 ?c51 ?k51 ?m51f ?m52a ?l52 ?c52 ?k52 ?m52f ?m53a ?l53 ?c53 ?k53 ?m53f ?m54a ?l54 ?c54 ?k54 ?m54f ?m55a ?l55 ?c55 ?k55 ?m55f ?m56a ?l56 ?c56 ?k56 ?m56f ?m57a ?l57 ?c57 ?k57 ?m57f ?a58 ?l58 ?c58 ?k58 ?a59 ?l59 ?c59 ?k59 ?z0 ?z1 ?z2 ?z3 ?z4 ?z5 ?z6 ?z7 ?z8 ?z9 ?z10 ?z11 ?z12 ?z13 ?z14 ?z15 ?z16 ?z17 ?z18 ?z19 ?z20 ?q0 ?q1 ?q2 ?q3 ?q4 ?q5 ?q6 ?q7 ?q8 ?q9 ?q9l ?q9v ?q10 ?q11 ?q12 ?q13 ?q14 ?q15 ?q16 ?q17 ?q18 ?q19 ?q20 ?q20l ?q20v ?q20r0l ?q20r0v ?q20r1l ?q20r1v ?q20r2l ?q20r2v ?q20r3l ?q20r3v ?q20r4l ?q20r4v ?q21 ?q22 ?q23 ?q24 ?q25 ?q26 ?e0a ?e1a ?e2a ?e3a ?e4a ?e0x ?e0g ?e0h ?e0b ?e0d ?e0c ?e0m ?e0n ?e0s ?e0i ?e0k ?e0t ?e0u ?e0w ?e0v ?e0q ?e0y ?e0A0 ?e0B0 ?e0A1 ?e0B1 ?e0A2 ?e0B2 ?e0A3 ?e0B3 ?e0A4 ?e0B4 ?e0P0 ?e0P1 ?e0P2 ?e0P3 ?e0P4 ?e0P5 ?e0P6 ?e1x ?e1g ?e1h ?e1b ?e1d ?e1c ?e1m ?e1n ?e1s ?e1i ?e1k ?e1t ?e1u ?e1w ?e1v ?e1q ?e1y ?e1A0 ?e1B0 ?e1A1 ?e1B1 ?e1A2 ?e1B2 ?e1A3 ?e1B3 ?e1A4 ?e1B4 ?e1P0 ?e1P1 ?e1P2 ?e1P3 ?e1P4 ?e1P5 ?e1P6 ?e2x ?e2g ?e2h ?e2b ?e2d ?e2c ?e2m ?e2n ?e2s ?e2i ?e2k ?e2t ?e2u ?e2w ?e2v ?e2q ?e2y ?e2A0 ?e2B0 ?e2A1 ?e2B1 ?e2A2 ?e2B2 ?e2A3 ?e2B3 ?e2A4 ?e2B4 ?e2P0 ?e2P1 ?e2P2 ?e2P3 ?e2P4 ?e2P5 ?e2P6 ?e3x ?e3g ?e3h ?e3b ?e3d ?e3c ?e3m ?e3n ?e3s ?e3i ?e3k ?e3t ?e3u ?e3w ?e3v ?e3q ?e3y ?e3A0 ?e3B0 ?e3A1 ?e3B1 ?e3A2 ?e3B2 ?e3A3 ?e3B3 ?e3A4 ?e3B4 ?e3P0 ?e3P1 ?e3P2 ?e3P3 ?e3P4 ?e3P5 ?e3P6 ?e4x ?e4g ?e4h ?e4b ?e4d ?e4c ?e4m ?e4n ?e4s ?e4i ?e4k ?e4t ?e4u ?e4w ?e4v ?e4q ?e4y ?e4A0 ?e4B0 ?e4A1 ?e4B1 ?e4A2 ?e4B2 ?e4A3 ?e4B3 ?e4A4 ?e4B4 ?e4P0 ?e4P1 ?e4P2 ?e4P3 ?e4P4 ?e4P5 ?e4P6 ?j1 ?j2 ?j3 ?j4 ?j5 ?j6 ?j7 ?j8 ?j9 ?j10 ?j11 ?j13
    (case v0a => first | k_is | decide +kernel)
    (case v0pg => first | k_is | decide +kernel)
    (case v0hd => first | k_is | decide +kernel)
    (case v0po => first | k_is | decide +kernel)
    (case v0sa => first | k_is | decide +kernel)
    (case v0mk => first | k_is | decide +kernel)
    (case v0kp => first | k_is | decide +kernel)
    (case v0ks => kit_is)
    (case v0cc => first | k_is | decide +kernel)
    (case v0mo => first | k_is | decide +kernel)
    (case v0P0 => kit_is)
    (case v0P1 => kit_is)
    (case v0P2 => kit_is)
    (case v0P3 => kit_is)
    (case v0P4 => kit_is)
    (case v0P5 => kit_is)
    (case v0P6 => kit_is)
    (case v0N0 => first | k_is | decide +kernel)
    (case v0N1 => first | k_is | decide +kernel)
    (case v0N2 => first | k_is | decide +kernel)
    (case v1a => first | k_is | decide +kernel)
    (case v1pg => first | k_is | decide +kernel)
    (case v1hd => first | k_is | decide +kernel)
    (case v1po => first | k_is | decide +kernel)
    (case v1sa => first | k_is | decide +kernel)
    (case v1mk => first | k_is | decide +kernel)
    (case v1kp => first | k_is | decide +kernel)
    (case v1ks => kit_is)
    (case v1cc => first | k_is | decide +kernel)
    (case v1mo => first | k_is | decide +kernel)
    (case v1P0 => kit_is)
    (case v1P1 => kit_is)
    (case v1P2 => kit_is)
    (case v1P3 => kit_is)
    (case v1P4 => kit_is)
    (case v1P5 => kit_is)
    (case v1P6 => kit_is)
    (case v1N3 => first | k_is | decide +kernel)
    (case v1N4 => first | k_is | decide +kernel)
    (case v1N5 => first | k_is | decide +kernel)
    (case v1N6 => first | k_is | decide +kernel)
    (case v1N7 => first | k_is | decide +kernel)
    (case v2a => first | k_is | decide +kernel)
    (case v2pg => first | k_is | decide +kernel)
    (case v2hd => first | k_is | decide +kernel)
    (case v2po => first | k_is | decide +kernel)
    (case v2sa => first | k_is | decide +kernel)
    (case v2mk => first | k_is | decide +kernel)
    (case v2kp => first | k_is | decide +kernel)
    (case v2ks => kit_is)
    (case v2cc => first | k_is | decide +kernel)
    (case v2mo => first | k_is | decide +kernel)
    (case v2P0 => kit_is)
    (case v2P1 => kit_is)
    (case v2P2 => kit_is)
    (case v2P3 => kit_is)
    (case v2P4 => kit_is)
    (case v2P5 => kit_is)
    (case v2P6 => kit_is)
    (case v2N8 => first | k_is | decide +kernel)
    (case v2N9 => first | k_is | decide +kernel)
    (case v2N10 => first | k_is | decide +kernel)
    (case v2N11 => first | k_is | decide +kernel)
    (case v2N12 => first | k_is | decide +kernel)
    (case v2N13 => first | k_is | decide +kernel)
    (case v2N14 => first | k_is | decide +kernel)
    (case a0 => k_is)
    (case l0 => k_is)
    (case c0 => k_is)
    (case k0 => k_is)
    (case a1 => k_is)
    (case l1 => k_is)
    (case c1 => k_is)
    (case k1 => k_is)
    (case a2 => k_is)
    (case l2 => k_is)
    (case c2 => k_is)
    (case k2 => k_is)
    (case a3 => k_is)
    (case l3 => k_is)
    (case c3 => k_is)
    (case k3 => k_is)
    (case a4 => k_is)
    (case l4 => k_is)
    (case c4 => k_is)
    (case k4 => k_is)
    (case a5 => k_is)
    (case l5 => k_is)
    (case c5 => k_is)
    (case k5 => k_is)
    (case a6 => k_is)
    (case l6 => k_is)
    (case c6 => k_is)
    (case k6 => k_is)
    (case a7 => k_is)
    (case l7 => k_is)
    (case c7 => k_is)
    (case k7 => k_is)
    (case a8 => k_is)
    (case l8 => k_is)
    (case c8 => k_is)
    (case k8 => k_is)
    (case a9 => k_is)
    (case l9 => k_is)
    (case c9 => k_is)
    (case k9 => k_is)
    (case a10 => k_is)
    (case l10 => k_is)
    (case c10 => k_is)
    (case k10 => k_is)
    (case a11 => k_is)
    (case l11 => k_is)
    (case c11 => k_is)
    (case k11 => k_is)
    (case a12 => k_is)
    (case l12 => k_is)
    (case c12 => k_is)
    (case k12 => k_is)
    (case a13 => k_is)
    (case l13 => k_is)
    (case c13 => k_is)
    (case k13 => k_is)
    (case a14 => k_is)
    (case l14 => k_is)
    (case c14 => k_is)
    (case k14 => k_is)
    (case a15 => k_is)
    (case l15 => k_is)
    (case c15 => k_is)
    (case k15 => k_is)
    (case m16a => first | k_is | rfl | decide +kernel)
    (case m16g => first | k_is | rfl | decide +kernel)
    (case m16t => first | k_is | rfl | decide +kernel)
    (case m16r => first | k_is | rfl | decide +kernel)
    (case l16 => k_is)
    (case c16 => k_is)
    (case k16 => k_is)
    (case m16f => first | k_is | rfl | decide +kernel)
    (case a17 => k_is)
    (case l17 => k_is)
    (case c17 => k_is)
    (case k17 => k_is)
    (case m18a => first | k_is | rfl | decide +kernel)
    (case l18 => k_is)
    (case c18 => k_is)
    (case k18 => k_is)
    (case m18f => first | k_is | rfl | decide +kernel)
    (case m19a => first | k_is | rfl | decide +kernel)
    (case l19 => k_is)
    (case c19 => k_is)
    (case k19 => k_is)
    (case m19f => first | k_is | rfl | decide +kernel)
    (case a20 => k_is)
    (case l20 => k_is)
    (case c20 => k_is)
    (case k20 => k_is)
    (case a21 => k_is)
    (case l21 => k_is)
    (case c21 => k_is)
    (case k21 => k_is)
    (case a22 => k_is)
    (case l22 => k_is)
    (case c22 => k_is)
    (case k22 => k_is)
    (case a23 => k_is)
    (case l23 => k_is)
    (case c23 => k_is)
    (case k23 => k_is)
    (case a24 => k_is)
    (case l24 => k_is)
    (case c24 => k_is)
    (case k24 => k_is)
    (case a25 => k_is)
    (case l25 => k_is)
    (case c25 => k_is)
    (case k25 => k_is)
    (case a26 => k_is)
    (case l26 => k_is)
    (case c26 => k_is)
    (case k26 => k_is)
    (case a27 => k_is)
    (case l27 => k_is)
    (case c27 => k_is)
    (case k27 => k_is)
    (case a28 => k_is)
    (case l28 => k_is)
    (case c28 => k_is)
    (case k28 => k_is)
    (case a29 => k_is)
    (case l29 => k_is)
    (case c29 => k_is)
    (case k29 => k_is)
    (case a30 => k_is)
    (case l30 => k_is)
    (case c30 => k_is)
    (case k30 => k_is)
    (case m31a => first | k_is | rfl | decide +kernel)
    (case l31 => k_is)
    (case c31 => k_is)
    (case k31 => k_is)
    (case m31f => first | k_is | rfl | decide +kernel)
    (case m32a => first | k_is | rfl | decide +kernel)
    (case l32 => k_is)
    (case c32 => k_is)
    (case k32 => k_is)
    (case m32f => first | k_is | rfl | decide +kernel)
    (case m33a => first | k_is | rfl | decide +kernel)
    (case l33 => k_is)
    (case c33 => k_is)
    (case k33 => k_is)
    (case m33f => first | k_is | rfl | decide +kernel)
    (case m34a => first | k_is | rfl | decide +kernel)
    (case l34 => k_is)
    (case c34 => k_is)
    (case k34 => k_is)
    (case m34f => first | k_is | rfl | decide +kernel)
    (case m35a => first | k_is | rfl | decide +kernel)
    (case l35 => k_is)
    (case c35 => k_is)
    (case k35 => k_is)
    (case m35f => first | k_is | rfl | decide +kernel)
    (case a36 => k_is)
    (case l36 => k_is)
    (case c36 => k_is)
    (case k36 => k_is)
    (case a37 => k_is)
    (case l37 => k_is)
    (case c37 => k_is)
    (case k37 => k_is)
    (case m38a => first | k_is | rfl | decide +kernel)
    (case l38 => k_is)
    (case c38 => k_is)
    (case k38 => k_is)
    (case m38f => first | k_is | rfl | decide +kernel)
    (case m39a => first | k_is | rfl | decide +kernel)
    (case l39 => k_is)
    (case c39 => k_is)
    (case k39 => k_is)
    (case m39f => first | k_is | rfl | decide +kernel)
    (case a40 => k_is)
    (case l40 => k_is)
    (case c40 => k_is)
    (case k40 => k_is)
    (case a41 => k_is)
    (case l41 => k_is)
    (case c41 => k_is)
    (case k41 => k_is)
    (case a42 => k_is)
    (case l42 => k_is)
    (case c42 => k_is)
    (case k42 => k_is)
    (case a43 => k_is)
    (case l43 => k_is)
    (case c43 => k_is)
    (case k43 => k_is)
    (case a44 => k_is)
    (case l44 => k_is)
    (case c44 => k_is)
    (case k44 => k_is)
    (case a45 => k_is)
    (case l45 => k_is)
    (case c45 => k_is)
    (case k45 => k_is)
    (case a46 => k_is)
    (case l46 => k_is)
    (case c46 => k_is)
    (case k46 => k_is)
    (case a47 => k_is)
    (case l47 => k_is)
    (case c47 => k_is)
    (case k47 => k_is)
    (case a48 => k_is)
    (case l48 => k_is)
    (case c48 => k_is)
    (case k48 => k_is)
    (case a49 => k_is)
    (case l49 => k_is)
    (case c49 => k_is)
    (case k49 => k_is)
    (case a50 => k_is)
    (case l50 => k_is)
    (case c50 => k_is)
    (case k50 => k_is)
    (case m51a => first | k_is | rfl | decide +kernel)
    (case l51 => k_is)
    (case c51 => k_is)
    (case k51 => k_is)
    (case m51f => first | k_is | rfl | decide +kernel)
    (case m52a => first | k_is | rfl | decide +kernel)
    (case l52 => k_is)
    (case c52 => k_is)
    (case k52 => k_is)
    (case m52f => first | k_is | rfl | decide +kernel)
    (case m53a => first | k_is | rfl | decide +kernel)
    (case l53 => k_is)
    (case c53 => k_is)
    (case k53 => k_is)
    (case m53f => first | k_is | rfl | decide +kernel)
    (case m54a => first | k_is | rfl | decide +kernel)
    (case l54 => k_is)
    (case c54 => k_is)
    (case k54 => k_is)
    (case m54f => first | k_is | rfl | decide +kernel)
    (case m55a => first | k_is | rfl | decide +kernel)
    (case l55 => k_is)
    (case c55 => k_is)
    (case k55 => k_is)
    (case m55f => first | k_is | rfl | decide +kernel)
    (case m56a => first | k_is | rfl | decide +kernel)
    (case l56 => k_is)
    (case c56 => k_is)
    (case k56 => k_is)
    (case m56f => first | k_is | rfl | decide +kernel)
    (case m57a => first | k_is | rfl | decide +kernel)
    (case l57 => k_is)
    (case c57 => k_is)
    (case k57 => k_is)
    (case m57f => first | k_is | rfl | decide +kernel)
    (case a58 => k_is)
    (case l58 => k_is)
    (case c58 => k_is)
    (case k58 => k_is)
    (case a59 => k_is)
    (case l59 => k_is)
    (case c59 => k_is)
    (case k59 => k_is)
    (case z0 => k_is)
    (case z1 => k_is)
    (case z2 => k_is)
    (case z3 => k_is)
    (case z4 => k_is)
    (case z5 => k_is)
    (case z6 => k_is)
    (case z7 => k_is)
    (case z8 => k_is)
    (case z9 => k_is)
    (case z10 => k_is)
    (case z11 => k_is)
    (case z12 => k_is)
    (case z13 => k_is)
    (case z14 => k_is)
    (case z15 => k_is)
    (case z16 => k_is)
    (case z17 => k_is)
    (case z18 => k_is)
    (case z19 => k_is)
    (case z20 => k_is)
    (case q0 => k_is)
    (case q1 => k_is)
    (case q2 => k_is)
    (case q3 => k_is)
    (case q4 => k_is)
    (case q5 => k_is)
    (case q6 => k_is)
    (case q7 => k_is)
    (case q8 => k_is)
    (case q9 => k_is)
    (case q9l => k_is)
    (case q9v => first | rfl | decide +kernel | k_is)
    (case q10 => k_is)
    (case q11 => k_is)
    (case q12 => k_is)
    (case q13 => k_is)
    (case q14 => k_is)
    (case q15 => k_is)
    (case q16 => k_is)
    (case q17 => k_is)
    (case q18 => k_is)
    (case q19 => k_is)
    (case q20 => k_is)
    (case q20l => k_is)
    (case q20v => first | rfl | decide +kernel | k_is)
    (case q20r0l => k_is)
    (case q20r0v => first | rfl | decide +kernel | k_is)
    (case q20r1l => k_is)
    (case q20r1v => first | rfl | decide +kernel | k_is)
    (case q20r2l => k_is)
    (case q20r2v => first | rfl | decide +kernel | k_is)
    (case q20r3l => k_is)
    (case q20r3v => first | rfl | decide +kernel | k_is)
    (case q20r4l => k_is)
    (case q20r4v => first | rfl | decide +kernel | k_is)
    (case q21 => k_is)
    (case q22 => k_is)
    (case q23 => k_is)
    (case q24 => k_is)
    (case q25 => k_is)
    (case q26 => k_is)
    (case e0a => k_is)
    (case e1a => k_is)
    (case e2a => k_is)
    (case e3a => k_is)
    (case e4a => k_is)
    (case e0x => k_is)
    (case e0g => k_is)
    (case e0h => k_is)
    (case e0b => k_is)
    (case e0d => k_is)
    (case e0c => k_is)
    (case e0m => k_is)
    (case e0n => k_is)
    (case e0s => k_is)
    (case e0i => k_is)
    (case e0k => k_is)
    (case e0t => k_is)
    (case e0u => k_is)
    (case e0w => ks_is)
    (case e0v => k_is)
    (case e0q => kx_is)
    (case e0y => kit_is)
    (case e0A0 => kit_is)
    (case e0B0 => kts_exm)
    (case e0A1 => kit_is)
    (case e0B1 => kts_exm)
    (case e0A2 => kit_is)
    (case e0B2 => kts_exm)
    (case e0A3 => kit_is)
    (case e0B3 => kts_exm)
    (case e0A4 => kit_is)
    (case e0B4 => kts_exm)
    (case e0P0 => kit_is)
    (case e0P1 => kit_is)
    (case e0P2 => kit_is)
    (case e0P3 => kit_is)
    (case e0P4 => kit_is)
    (case e0P5 => kit_is)
    (case e0P6 => kit_is)
    (case e1x => k_is)
    (case e1g => k_is)
    (case e1h => k_is)
    (case e1b => k_is)
    (case e1d => k_is)
    (case e1c => k_is)
    (case e1m => k_is)
    (case e1n => k_is)
    (case e1s => k_is)
    (case e1i => k_is)
    (case e1k => k_is)
    (case e1t => k_is)
    (case e1u => k_is)
    (case e1w => ks_is)
    (case e1v => k_is)
    (case e1q => kx_is)
    (case e1y => kit_is)
    (case e1A0 => kit_is)
    (case e1B0 => kts_exm)
    (case e1A1 => kit_is)
    (case e1B1 => kts_exm)
    (case e1A2 => kit_is)
    (case e1B2 => kts_exm)
    (case e1A3 => kit_is)
    (case e1B3 => kts_exm)
    (case e1A4 => kit_is)
    (case e1B4 => kts_exm)
    (case e1P0 => kit_is)
    (case e1P1 => kit_is)
    (case e1P2 => kit_is)
    (case e1P3 => kit_is)
    (case e1P4 => kit_is)
    (case e1P5 => kit_is)
    (case e1P6 => kit_is)
    (case e2x => k_is)
    (case e2g => k_is)
    (case e2h => k_is)
    (case e2b => k_is)
    (case e2d => k_is)
    (case e2c => k_is)
    (case e2m => k_is)
    (case e2n => k_is)
    (case e2s => k_is)
    (case e2i => k_is)
    (case e2k => k_is)
    (case e2t => k_is)
    (case e2u => k_is)
    (case e2w => ks_is)
    (case e2v => k_is)
    (case e2q => kx_is)
    (case e2y => kit_is)
    (case e2A0 => kit_is)
    (case e2B0 => kts_exm)
    (case e2A1 => kit_is)
    (case e2B1 => kts_exm)
    (case e2A2 => kit_is)
    (case e2B2 => kts_exm)
    (case e2A3 => kit_is)
    (case e2B3 => kts_exm)
    (case e2A4 => kit_is)
    (case e2B4 => kts_exm)
    (case e2P0 => kit_is)
    (case e2P1 => kit_is)
    (case e2P2 => kit_is)
    (case e2P3 => kit_is)
    (case e2P4 => kit_is)
    (case e2P5 => kit_is)
    (case e2P6 => kit_is)
    (case e3x => k_is)
    (case e3g => k_is)
    (case e3h => k_is)
    (case e3b => k_is)
    (case e3d => k_is)
    (case e3c => k_is)
    (case e3m => k_is)
    (case e3n => k_is)
    (case e3s => k_is)
    (case e3i => k_is)
    (case e3k => k_is)
    (case e3t => k_is)
    (case e3u => k_is)
    (case e3w => ks_is)
    (case e3v => k_is)
    (case e3q => kx_is)
    (case e3y => kit_is)
    (case e3A0 => kit_is)
    (case e3B0 => kts_exm)
    (case e3A1 => kit_is)
    (case e3B1 => kts_exm)
    (case e3A2 => kit_is)
    (case e3B2 => kts_exm)
    (case e3A3 => kit_is)
    (case e3B3 => kts_exm)
    (case e3A4 => kit_is)
    (case e3B4 => kts_exm)
    (case e3P0 => kit_is)
    (case e3P1 => kit_is)
    (case e3P2 => kit_is)
    (case e3P3 => kit_is)
    (case e3P4 => kit_is)
    (case e3P5 => kit_is)
    (case e3P6 => kit_is)
    (case e4x => k_is)
    (case e4g => k_is)
    (case e4h => k_is)
    (case e4b => k_is)
    (case e4d => k_is)
    (case e4c => k_is)
    (case e4m => k_is)
    (case e4n => k_is)
    (case e4s => k_is)
    (case e4i => k_is)
    (case e4k => k_is)
    (case e4t => k_is)
    (case e4u => k_is)
    (case e4w => ks_is)
    (case e4v => k_is)
    (case e4q => kx_is)
    (case e4y => kit_is)
    (case e4A0 => kit_is)
    (case e4B0 => kts_exm)
    (case e4A1 => kit_is)
    (case e4B1 => kts_exm)
    (case e4A2 => kit_is)
    (case e4B2 => kts_exm)
    (case e4A3 => kit_is)
    (case e4B3 => kts_exm)
    (case e4A4 => kit_is)
    (case e4B4 => kts_exm)
    (case e4P0 => kit_is)
    (case e4P1 => kit_is)
    (case e4P2 => kit_is)
    (case e4P3 => kit_is)
    (case e4P4 => kit_is)
    (case e4P5 => kit_is)
    (case e4P6 => kit_is)
    (case j1 => k_is)
    (case j2 => k_is)
    (case j3 => k_is)
    (case j4 => k_is)
    (case j5 => k_is)
    (case j6 => k_is)
    (case j7 => first | rfl | decide +kernel | k_is)
    (case j8 => first | rfl | decide +kernel | k_is)
    (case j9 => k_is)
    (case j10 => k_is)
    (case j11 => k_is)
    (case j13 => k_is)
