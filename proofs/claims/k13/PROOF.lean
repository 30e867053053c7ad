import PyProof.Rows.All
import Wide.All
import OpenK.AllK
import Wide.FinOn
import HandS.ForMost
import HandS.Exc
import HandS.TryOnly
import HandS.ExcOwn
import HandS.WordsExc
import HandS.Lambda
import KE.KeyNested
import HandS.CallSlots
import HandS.List
import HandS.Text
import HandS.TupAny
import HandS.TupMul
import HandS.Wide
import HandS.Style
import HandS.IsInst
import HandS.Conv
import HandS.SortInts
import PyProof.Rows.SortShellAny
import HandS.Iter
import KE.GoesMore
import HandS.Comp
import HandS.Nested
import HandS.ExcIs
import HandS.ExcField
import KE.KExcSuper
import HandS.ExcSuper
import KE.KExcIs
import PyProof.ReprRoads
import PyProof.ReprLen
import HandS.RaiseMore
import HandS.DictTup
import KE.KSortTupG
import HandS.Keys
import HandS.TupSets
import HandS.Defaults
import HandS.HeadHook4
import HandS.EndTab
import KE.KDictList
import HandS.More
import KE.KStateDown
import Lean
import HandS.Base
import HandS.Call
import HandS.Ends
import HandS.Words
import HandS.Head0
import HandS.Head1
import HandS.Head2
import HandS.HeadEnd
import HandS.HeadHook1
import HandS.HeadHook2
import KE.KSuper
import PySem.Challenge.RW_kindsofsaying_k13_looks_of_words
set_option Elab.async false
set_option linter.all false
set_option maxRecDepth 100000
set_option maxHeartbeats 2000000
namespace SC
open PySem PySem.Spec PyProof.Rows L2

/-! ### data without the heap -/
inductive AD where
  | non | bl (b : Bool) | int (i : Int) | str (s : Str) | ty (n : String)
  | tup (ds : List AD) | lst (ds : List AD) | scr (ds : List AD)
  | ref (n : Nat) | exc (c : Str) (d : AD) | lamR (j : Nat) | lamS (j : Nat) (ds : List AD)
inductive AO where
  | lst (ds : List AD) | dct (kvs : List (AD × AD)) | any
abbrev Slots := List (Option AD)
abbrev Store := List AO
inductive R (α : Type) where
  | ok (a : α) (μ : Store) | exc (c : Str) (d : AD) (μ : Store) | bad
def R.bind {α β : Type} (r : R α) (f : α → Store → R β) : R β := match r with
  | .ok a μ => f a μ
  | .exc c d μ => .exc c d μ
  | .bad => .bad
inductive SR where
  | nx (σ : Slots) (μ : Store) | rt (d : AD) (μ : Store) | bk (σ : Slots) (μ : Store) | ct (σ : Slots) (μ : Store) | exc (c : Str) (d : AD) (σ : Slots) (μ : Store) | bad
abbrev SE := Slots → Store → R AD
abbrev ST := Slots → Store → R Bool
abbrev SA := Slots → Store → R (List AD)
abbrev SS := Slots → Store → SR

/-! ### what stands for what -/
abbrev Ex (H H' : Hp) : Prop := ∀ a o, H a = some o → H' a = some o
theorem Ex.rfl' (H : Hp) : Ex H H := fun _ _ h => h
theorem ex_new {H : Hp} {p : Addr} {o : HO} (h : H p = none) : Ex H (upd H p o) := fun a u e => by
  rw [upd_ne (ne_of_none e h)]
  exact e
theorem ex_rd {H H' : Hp} {a : Addr} {u : HO} (e : Ex H H') (h : Rd H a u) : Rd H' a u := by
  rcases h with h | ⟨o, h⟩
  · exact Or.inl (e a _ h)
  · exact Or.inr ⟨o, e a _ h⟩
theorem ex_l {K : PySem.W.Frag} {H H' : Hp} {a : Addr} {xs : List V} (e : Ex H H') (h : SqL K H a xs) : SqL K H' a xs := h.elim (fun h => Or.inl (ex_rd e h)) Or.inr
theorem ex_t {K : PySem.W.Frag} {H H' : Hp} {a : Addr} {xs : List V} (e : Ex H H') (h : SqT K H a xs) : SqT K H' a xs := h.elim (fun h => Or.inl (ex_rd e h)) Or.inr

/-- a lambda of the text -/
structure LamD where
  qual : Str
  params : Arguments
  body : Expr
  scope : Scope
  frees : List Str
def lamO (L : LamD) (cl : List (Str × Addr)) (pm ctv : Value) (c' f : Addr) : HO := .ext fun h => h.get? f = some (PySem.W.kla_obj "<lambda>" L.qual L.params L.body L.scope cl pm c' ctv)
/-- a caught exception at a, of the class at C, its dict at dx -/
def excO (C dx a : Addr) : HO := .ext fun h => ∃ o vs, h.get? a = some o ∧ o.cls = .ref C ∧ o.dict = some dx ∧ o.data = .fields vs
/-- a cell that stays -/
def cellO (o : Obj) : HO := .frz o (.ext fun _ => True)
def CapOk (B : Hp) (frees : List Str) (cl : List (Str × Addr)) (vs : List V) : Prop :=
  (∀ x y c, cl.lookup x = some c → cl.lookup y = some c → x = y) ∧ (∀ x c, cl.lookup x = some c → ∃ i : Nat, frees[i]? = some x) ∧ vs.length = frees.length ∧
    ∀ (i : Nat) (x : Str), frees[i]? = some x → ∃ (c : Addr) (o : Obj) (v : V) (u : Value), cl.lookup x = some c ∧ B c = some (cellO o) ∧ o.data = .cell (some u) ∧ vs[i]? = some v ∧ RelV v u
/-- the world of a law: the written part, the lambdas, what an exception's object is; cl: this frame's cells -/
structure Wo where
  K : PySem.W.Frag
  prog : Program
  wd : World
  lamd : Nat → LamD
  T : List (Addr × Str)
  cl : Option (List (Str × Addr))
  cls : Str → Addr

mutual
inductive Rep (w : Wo) (ρ : List Addr) (B : Hp) : V → AD → Prop
  | non : Rep w ρ B .non .non
  | bl (b : Bool) : Rep w ρ B (.bl b) (.bl b)
  | int (i : Int) : Rep w ρ B (.int i) (.int i)
  | str (x : Str) : Rep w ρ B (.str x) (.str x)
  | ty (n : String) : Rep w ρ B (.ty n) (.ty n)
  | tup {a : Addr} {vs : List V} {ds : List AD} : SqT w.K B a vs → Reps w ρ B vs ds → Rep w ρ B (.ref a) (.tup ds)
  | lst {a : Addr} {vs : List V} {ds : List AD} : B a = some (.lst vs) → Reps w ρ B vs ds → Rep w ρ B (.ref a) (.lst ds)
  | scr {a : Addr} {vs : List V} {ds : List AD} : SqL w.K B a vs → Reps w ρ B vs ds → Rep w ρ B (.ref a) (.scr ds)
  | ref {a : Addr} {n : Nat} : ρ[n]? = some a → Rep w ρ B (.ref a) (.ref n)
  | exc {a dx : Addr} {c : Str} {v : V} {d : AD} : B a = some (excO (w.cls c) dx a) → B dx = some (.xd [("value", v)]) → Rep w ρ B v d → Rep w ρ B (.ref a) (.exc c d)
  | lamR {f c' : Addr} {j : Nat} {pm ctv : Value} {l : List (Str × Addr)} : w.cl = some l → B f = some (lamO (w.lamd j) (cloFrom l (w.lamd j).scope.names []) pm ctv c' f) → B c' = some (LamX.CodeO c' (w.lamd j).qual) → Rep w ρ B (.ref f) (.lamR j)
  | lamS {f c' : Addr} {j : Nat} {pm ctv : Value} {cl : List (Str × Addr)} {vs : List V} {ds : List AD} : B f = some (lamO (w.lamd j) cl pm ctv c' f) → B c' = some (LamX.CodeO c' (w.lamd j).qual) → CapOk B (w.lamd j).frees cl vs → Reps w ρ B vs ds → Rep w ρ B (.ref f) (.lamS j ds)
inductive Reps (w : Wo) (ρ : List Addr) (B : Hp) : List V → List AD → Prop
  | nil : Reps w ρ B [] []
  | cons {v : V} {vs : List V} {d : AD} {ds : List AD} : Rep w ρ B v d → Reps w ρ B vs ds → Reps w ρ B (v :: vs) (d :: ds)
end
def Pre (ρ ρ' : List Addr) : Prop := ∃ l, ρ' = ρ ++ l
theorem Pre.rfl' (ρ : List Addr) : Pre ρ ρ := ⟨[], by simp⟩
theorem Pre.trans {a b c : List Addr} : Pre a b → Pre b c → Pre a c := by
  rintro ⟨l, rfl⟩ ⟨m, rfl⟩
  exact ⟨l ++ m, by simp⟩
theorem Pre.get {a b : List Addr} (p : Pre a b) {n : Nat} {x : Addr} (h : a[n]? = some x) : b[n]? = some x := by
  obtain ⟨l, rfl⟩ := p
  rw [List.getElem?_append_left (List.getElem?_eq_some_iff.mp h).1]
  exact h
section
variable {w : Wo} {ρ ρ' : List Addr} {B B' : Hp}
theorem CapOk.mono {frees : List Str} {cl : List (Str × Addr)} {vs : List V} (h : CapOk B frees cl vs) (e : Ex B B') : CapOk B' frees cl vs :=
  ⟨h.1, h.2.1, h.2.2.1, fun i x hx => by
    obtain ⟨c, o, v, u, h1, h2, h3⟩ := h.2.2.2 i x hx
    exact ⟨c, o, v, u, h1, e _ _ h2, h3⟩⟩
mutual
theorem Rep.mono (e : Ex B B') (p : Pre ρ ρ') : ∀ {v : V} {d : AD}, Rep w ρ B v d → Rep w ρ' B' v d
  | _, _, .non => .non
  | _, _, .bl b => .bl b
  | _, _, .int i => .int i
  | _, _, .str x => .str x
  | _, _, .ty n => .ty n
  | _, _, .tup h q => .tup (ex_t e h) (Reps.mono e p q)
  | _, _, .lst h q => .lst (e _ _ h) (Reps.mono e p q)
  | _, _, .scr h q => .scr (ex_l e h) (Reps.mono e p q)
  | _, _, .ref h => .ref (p.get h)
  | _, _, .exc h1 h2 q => .exc (e _ _ h1) (e _ _ h2) (Rep.mono e p q)
  | _, _, .lamR h0 h1 h2 => .lamR h0 (e _ _ h1) (e _ _ h2)
  | _, _, .lamS h1 h2 h3 q => .lamS (e _ _ h1) (e _ _ h2) (h3.mono e) (Reps.mono e p q)
theorem Reps.mono (e : Ex B B') (p : Pre ρ ρ') : ∀ {vs : List V} {ds : List AD}, Reps w ρ B vs ds → Reps w ρ' B' vs ds
  | _, _, .nil => .nil
  | _, _, .cons h q => .cons (Rep.mono e p h) (Reps.mono e p q)
end
theorem Reps.length : ∀ {vs : List V} {ds : List AD}, Reps w ρ B vs ds → vs.length = ds.length
  | _, _, .nil => rfl
  | _, _, .cons _ q => congrArg (· + 1) q.length
theorem Reps.get : ∀ {vs : List V} {ds : List AD} {i : Nat} {d : AD}, Reps w ρ B vs ds → ds[i]? = some d → ∃ v, vs[i]? = some v ∧ Rep w ρ B v d
  | _, _, i, d, .nil, h => by simp at h
  | _, _, 0, d, .cons r q, h => by
    cases h
    exact ⟨_, rfl, r⟩
  | _, _, i + 1, d, .cons r q, h => by
    obtain ⟨v, h1, h2⟩ := Reps.get (i := i) (d := d) q (by simpa using h)
    exact ⟨v, by simpa using h1, h2⟩
theorem Reps.append : ∀ {vs ws : List V} {ds es : List AD}, Reps w ρ B vs ds → Reps w ρ B ws es → Reps w ρ B (vs ++ ws) (ds ++ es)
  | _, _, _, _, .nil, s => s
  | _, _, _, _, .cons r q, s => .cons r (Reps.append q s)
theorem Reps.set {v : V} {d : AD} (r : Rep w ρ B v d) : ∀ {vs : List V} {ds : List AD} (i : Nat), Reps w ρ B vs ds → Reps w ρ B (vs.set i v) (ds.set i d)
  | _, _, _, .nil => .nil
  | _, _, 0, .cons _ q => .cons r q
  | _, _, i + 1, .cons p q => .cons p (Reps.set r i q)
theorem Reps.take : ∀ {vs : List V} {ds : List AD} (n : Nat), Reps w ρ B vs ds → Reps w ρ B (vs.take n) (ds.take n)
  | _, _, 0, _ => .nil
  | _, _, _ + 1, .nil => .nil
  | _, _, n + 1, .cons r q => .cons r (Reps.take n q)
theorem Reps.drop : ∀ {vs : List V} {ds : List AD} (n : Nat), Reps w ρ B vs ds → Reps w ρ B (vs.drop n) (ds.drop n)
  | _, _, 0, q => q
  | _, _, _ + 1, .nil => .nil
  | _, _, n + 1, .cons _ q => Reps.drop n q
theorem Reps.reverse {vs : List V} {ds : List AD} (q : Reps w ρ B vs ds) : Reps w ρ B vs.reverse ds.reverse := by
  induction vs generalizing ds with
  | nil => cases q; exact .nil
  | cons v vs ih =>
    cases q with
    | cons r q => rw [List.reverse_cons, List.reverse_cons]; exact (ih q).append (.cons r .nil)
end

/-! ### the own mutable objects -/
def keyAD : Key → AD
  | .inl i => .int i
  | .inr x => .str x
def KReps (w : Wo) (ρ : List Addr) (B : Hp) : List (Key × V) → List (AD × AD) → Prop
  | [], [] => True
  | (k, v) :: r, (a, d) :: s => a = keyAD k ∧ Rep w ρ B v d ∧ KReps w ρ B r s
  | _, _ => False
/-! dicts whose keys are tuples of any depth -/
def deepO (P : Program) (wd : World) (a : Addr) (xs : List (NestedKey × Addr × V)) : HO := .ext fun h => ∃ vs : List (NestedKey × Addr × Value), Paired (fun (p : NestedKey × Addr × V) (q : NestedKey × Addr × Value) => p.1 = q.1 ∧ p.2.1 = q.2.1 ∧ RelV p.2.2 q.2.2) xs vs ∧
  (a == sysModules) = false ∧ xs.length ≤ sizeLine ∧ ∃ o es ep, h.get? a = some o ∧ o.ExactDict ∧ o.data = .dict es ep ∧ es.toList = vs.map (entryOfKey (nestedKind P wd)) ∧ (vs.map (·.1)).Nodup
def okK : Nat → AD → Bool
  | 0, d => match d with
    | .non => true | .bl _ => true | .int _ => true | .str _ => true | _ => false
  | k + 1, d => match d with
    | .non => true | .bl _ => true | .int _ => true | .str _ => true
    | .tup ds => ds.all (okK k)
    | _ => false
def toNK : Nat → AD → NestedKey
  | 0, d => match d with
    | .bl b => .num (if b then 1 else 0)
    | .int i => .num i
    | .str x => .text x
    | _ => .none
  | k + 1, d => match d with
    | .bl b => .num (if b then 1 else 0)
    | .int i => .num i
    | .str x => .text x
    | .tup ds => .tup (ds.map (toNK k))
    | _ => .none
def DReps (w : Wo) (ρ : List Addr) (B : Hp) : List (NestedKey × Addr × V) → List (AD × AD) → Prop
  | [], [] => True
  | (n, c, v) :: r, (k, d) :: s => Rep w ρ B (.ref c) k ∧ okK 8 k = true ∧ n = toNK 8 k ∧ Rep w ρ B v d ∧ DReps w ρ B r s
  | _, _ => False
def OkO (w : Wo) (ρ : List Addr) (B H : Hp) (a : Addr) : AO → Prop
  | .lst ds => ∃ vs, H a = some (.lst vs) ∧ Reps w ρ B vs ds
  | .dct kvs => (∃ ks, H a = some (.dK ks) ∧ KReps w ρ B ks kvs) ∨ ∃ xs, H a = some (deepO w.prog w.wd a xs) ∧ DReps w ρ B xs kvs ∧ xs ≠ [] ∧ ∀ q, deepO w.prog w.wd a xs ≠ LamX.CodeO a q
  | .any => ∃ vs, H a = some (.lst vs)
def TabK (B H : Hp) (P : Addr) (q : Str) : Prop := ∃ ps : Array Value, H P = some (.tbl ps) ∧ TriplesOk ps.toList ∧ ∀ (pos : Pos) (cv : Value), codeAmong pos ps.toList = some cv → ∃ c, cv = .ref c ∧ B c = some (LamX.CodeO c q)
theorem TabK.mono {B B' H H' : Hp} {P : Addr} {q : Str} (t : TabK B H P q) (e : Ex B B') (h : H' P = H P) : TabK B' H' P q := by
  obtain ⟨ps, h1, h2, h3⟩ := t
  refine ⟨ps, h.trans h1, h2, fun pos cv hc => ?_⟩
  obtain ⟨c, e1, e2⟩ := h3 pos cv hc
  exact ⟨c, e1, e _ _ e2⟩
structure Rl (w : Wo) (ρ : List Addr) (B : Hp) (μ : Store) (H : Hp) : Prop where
  ex : Ex B H
  nd : ρ.Nodup
  off : ∀ a ∈ ρ, B a = none
  obj : ∀ (n : Nat) (a : Addr), ρ[n]? = .some a → ∃ o : AO, μ[n]? = .some o ∧ OkO w ρ B H a o
  len : ρ.length = μ.length
  tab : ∀ p ∈ w.T, p.1 ∉ ρ ∧ B p.1 = none ∧ TabK B H p.1 p.2
/-- from (ρ, B, H) on to (ρ', B', H'): what is known stays, what is not one's own stays, what is new is new -/
structure Le (ρ : List Addr) (B H : Hp) (ρ' : List Addr) (B' H' : Hp) : Prop where
  pre : Pre ρ ρ'
  ex : Ex B B'
  keep : ∀ a o, a ∉ ρ → (∀ ps, o ≠ .tbl ps) → H a = some o → H' a = some o
  ne : ∀ a, H a ≠ none → H' a ≠ none
  fresh : ∀ a, B' a ≠ none → B a ≠ none ∨ H a = none
  freshR : ∀ a ∈ ρ', a ∈ ρ ∨ H a = none
  there : ∀ a ∈ ρ', H' a ≠ none
section
variable {w : Wo} {ρ ρ' ρ1 : List Addr} {B B' B1 H H' H1 : Hp} {μ μ' : Store}
theorem KReps.mono (e : Ex B B') (p : Pre ρ ρ') : ∀ {ks : List (Key × V)} {kvs : List (AD × AD)}, KReps w ρ B ks kvs → KReps w ρ' B' ks kvs
  | [], [], _ => trivial
  | [], _ :: _, h => h.elim
  | _ :: _, [], h => h.elim
  | (_, _) :: _, (_, _) :: _, ⟨h1, h2, h3⟩ => ⟨h1, h2.mono e p, KReps.mono e p h3⟩
theorem DReps.mono (e : Ex B B') (p : Pre ρ ρ') : ∀ {xs : List (NestedKey × Addr × V)} {kvs : List (AD × AD)}, DReps w ρ B xs kvs → DReps w ρ' B' xs kvs
  | [], [], _ => trivial
  | [], _ :: _, h => h.elim
  | _ :: _, [], h => h.elim
  | (_, _, _) :: _, (_, _) :: _, ⟨h1, h2, h3, h4, h5⟩ => ⟨h1.mono e p, h2, h3, h4.mono e p, DReps.mono e p h5⟩
theorem OkO.mono {a : Addr} {o : AO} (h : OkO w ρ B H a o) (e : Ex B B') (p : Pre ρ ρ') (q : H' a = H a) : OkO w ρ' B' H' a o := by
  cases o with
  | lst ds =>
    obtain ⟨vs, h1, h2⟩ := h
    exact ⟨vs, q.trans h1, h2.mono e p⟩
  | dct kvs =>
    rcases h with ⟨ks, h1, h2⟩ | h
    · exact .inl ⟨ks, q.trans h1, h2.mono e p⟩
    · obtain ⟨xs, h1, h2, h3⟩ := h
      exact .inr ⟨xs, q.trans h1, h2.mono e p, h3⟩
  | any =>
    obtain ⟨vs, h1⟩ := h
    exact ⟨vs, q.trans h1⟩
theorem OkO.some {a : Addr} {o : AO} (h : OkO w ρ B H a o) : H a ≠ none := by
  cases o with
  | lst ds => obtain ⟨vs, h1, h2⟩ := h; rw [h1]; exact nofun
  | dct kvs =>
    rcases h with ⟨ks, h1, h2⟩ | h
    · rw [h1]; exact nofun
    · obtain ⟨xs, h1, h2, h3⟩ := h
      rw [h1]; exact nofun
  | any => obtain ⟨vs, h1⟩ := h; rw [h1]; exact nofun
theorem OkO.tbl {a : Addr} {o : AO} (h : OkO w ρ B H a o) (ps : Array Value) : H a ≠ .some (.tbl ps) := by
  cases o with
  | lst ds => obtain ⟨vs, h1, h2⟩ := h; rw [h1]; exact nofun
  | dct kvs =>
    rcases h with ⟨ks, h1, h2⟩ | h
    · rw [h1]; exact nofun
    · obtain ⟨xs, h1, h2, h3⟩ := h
      rw [h1]; unfold deepO; exact nofun
  | any => obtain ⟨vs, h1⟩ := h; rw [h1]; exact nofun
theorem OkO.code {a : Addr} {o : AO} (h : OkO w ρ B H a o) (q : Str) : H a ≠ .some (LamX.CodeO a q) := by
  cases o with
  | lst ds => obtain ⟨vs, h1, h2⟩ := h; rw [h1]; unfold LamX.CodeO; exact nofun
  | dct kvs =>
    rcases h with ⟨ks, h1, h2⟩ | h
    · rw [h1]; unfold LamX.CodeO; exact nofun
    · obtain ⟨xs, h1, h2, h3⟩ := h
      rw [h1]; exact fun z => h3.2 q (Option.some.inj z)
  | any => obtain ⟨vs, h1⟩ := h; rw [h1]; unfold LamX.CodeO; exact nofun
theorem mem_of_get {α : Type} {l : List α} {n : Nat} {a : α} (h : l[n]? = .some a) : a ∈ l := List.mem_of_getElem? h
theorem Rl.there (r : Rl w ρ B μ H) : ∀ a ∈ ρ, H a ≠ none := fun a ha => by
  obtain ⟨n, h1⟩ := List.mem_iff_getElem?.mp ha
  obtain ⟨o, _, h2⟩ := r.obj n a h1
  exact h2.some
theorem Le.rfl' (r : Rl w ρ B μ H) : Le ρ B H ρ B H := ⟨Pre.rfl' _, fun _ _ h => h, fun _ _ _ _ h => h, fun _ h => h, fun _ h => .inl h, fun _ h => .inl h, r.there⟩
theorem Le.trans {ρ2 : List Addr} {B2 H2 : Hp} (a : Le ρ B H ρ1 B1 H1) (b : Le ρ1 B1 H1 ρ2 B2 H2) : Le ρ B H ρ2 B2 H2 := by
  have key : ∀ x, H1 x = none → H x = none := fun x hx => Classical.byContradiction fun hn => a.ne x hn hx
  refine ⟨a.pre.trans b.pre, fun x o h => b.ex x o (a.ex x o h), fun x o h1 ht h2 => ?_, fun x h => b.ne x (a.ne x h), fun x h => ?_, fun x h => ?_, b.there⟩
  · refine b.keep x o (fun h3 => ?_) ht (a.keep x o h1 ht h2)
    rcases a.freshR x h3 with h4 | h4
    · exact h1 h4
    · rw [h4] at h2; cases h2
  · rcases b.fresh x h with h1 | h1
    · exact a.fresh x h1
    · exact .inr (key x h1)
  · rcases b.freshR x h with h1 | h1
    · exact a.freshR x h1
    · exact .inr (key x h1)
/-- a new thing that is known from now on -/
theorem Rl.known {p : Addr} {o : HO} (r : Rl w ρ B μ H) (hp : H p = none) : Rl w ρ (upd B p o) μ (upd H p o) ∧ Le ρ B H ρ (upd B p o) (upd H p o) := by
  have hB : B p = none := by
    cases e : B p with
    | none => rfl
    | some o => rw [r.ex p o e] at hp; cases hp
  have hn : ∀ a ∈ ρ, a ≠ p := fun a ha e => r.there a ha (e ▸ hp)
  have hT : ∀ q ∈ w.T, q.1 ≠ p := fun q hq e => by
    obtain ⟨_, _, ps, h1, _⟩ := r.tab q hq
    rw [e, hp] at h1; cases h1
  refine ⟨⟨fun a u h => ?_, r.nd, fun a ha => ?_, fun n a h => ?_, r.len, fun q hq => ⟨(r.tab q hq).1, by rw [upd_ne (hT q hq)]; exact (r.tab q hq).2.1, (r.tab q hq).2.2.mono (ex_new hB) (upd_ne (hT q hq))⟩⟩, ⟨Pre.rfl' _, ex_new hB, fun a u _ _ h => ?_, fun a h z => ?_, fun a h => ?_, fun a h => .inl h, fun a h => ?_⟩⟩
  · by_cases e : a = p
    · subst e; rw [upd_same] at h ⊢; exact h
    · rw [upd_ne e] at h ⊢; exact r.ex a u h
  · rw [upd_ne (hn a ha)]; exact r.off a ha
  · obtain ⟨ob, h1, h2⟩ := r.obj n a h
    exact ⟨ob, h1, h2.mono (ex_new hB) (Pre.rfl' _) (upd_ne (hn a (mem_of_get h)))⟩
  · exact ex_new hp a u h
  · by_cases e : a = p
    · subst e; rw [upd_same] at z; cases z
    · rw [upd_ne e] at z; exact h z
  · by_cases e : a = p
    · subst e; exact .inr hp
    · rw [upd_ne e] at h; exact .inl h
  · rw [upd_ne (hn a h)]; exact r.there a h
/-- a new object of one's own -/
theorem Rl.own {p : Addr} {o : HO} {ao : AO} (r : Rl w ρ B μ H) (hp : H p = none) (ho : OkO w (ρ ++ [p]) B (upd H p o) p ao) : Rl w (ρ ++ [p]) B (μ ++ [ao]) (upd H p o) ∧ Le ρ B H (ρ ++ [p]) B (upd H p o) := by
  have hB : B p = none := by
    cases e : B p with
    | none => rfl
    | some o => rw [r.ex p o e] at hp; cases hp
  have hn : ∀ a ∈ ρ, a ≠ p := fun a ha e => r.there a ha (e ▸ hp)
  have pr : Pre ρ (ρ ++ [p]) := ⟨[p], rfl⟩
  have hT : ∀ q ∈ w.T, q.1 ≠ p := fun q hq e => by
    obtain ⟨_, _, ps, h1, _⟩ := r.tab q hq
    rw [e, hp] at h1; cases h1
  refine ⟨⟨fun a u h => ex_new hp a u (r.ex a u h), ?_, fun a ha => ?_, fun n a h => ?_, by rw [List.length_append, List.length_append, r.len]; rfl, fun q hq => ⟨fun z => ?_, (r.tab q hq).2.1, (r.tab q hq).2.2.mono (fun _ _ h => h) (upd_ne (hT q hq))⟩⟩, ⟨pr, fun _ _ h => h, fun a u _ _ h => ex_new hp a u h, fun a h z => ?_, fun a h => .inl h, fun a h => ?_, fun a h => ?_⟩⟩
  · refine List.nodup_append.mpr ⟨r.nd, by simp, fun a ha b hb => ?_⟩
    rw [List.mem_singleton] at hb
    subst hb
    exact hn a ha
  · rcases List.mem_append.mp ha with ha | ha
    · exact r.off a ha
    · rw [List.mem_singleton] at ha; subst ha; exact hB
  · by_cases hl : n < ρ.length
    · rw [List.getElem?_append_left hl] at h
      obtain ⟨ob, h1, h2⟩ := r.obj n a h
      exact ⟨ob, by rw [List.getElem?_append_left (r.len ▸ hl)]; exact h1, h2.mono (fun _ _ h => h) pr (upd_ne (hn a (mem_of_get h)))⟩
    · have hnl : n = ρ.length := by
        have := (List.getElem?_eq_some_iff.mp h).1
        simp at this; omega
      subst hnl
      simp at h
      subst h
      exact ⟨ao, by rw [r.len]; simp, ho⟩
  · rcases List.mem_append.mp z with z | z
    · exact (r.tab q hq).1 z
    · exact hT q hq (List.mem_singleton.mp z)
  · by_cases e : a = p
    · subst e; rw [upd_same] at z; cases z
    · rw [upd_ne e] at z; exact h z
  · rcases List.mem_append.mp h with h | h
    · exact .inl h
    · rw [List.mem_singleton] at h; subst h; exact .inr hp
  · rcases List.mem_append.mp h with h | h
    · rw [upd_ne (hn a h)]; exact r.there a h
    · rw [List.mem_singleton] at h; subst h; rw [upd_same]; exact nofun
/-- an own object changed -/
theorem Rl.write {n : Nat} {p : Addr} {o : HO} {ao : AO} (r : Rl w ρ B μ H) (hn : ρ[n]? = .some p) (ho : OkO w ρ B (upd H p o) p ao) : Rl w ρ B (μ.set n ao) (upd H p o) ∧ Le ρ B H ρ B (upd H p o) := by
  have hp := mem_of_get hn
  have hB := r.off p hp
  have hT : ∀ q ∈ w.T, q.1 ≠ p := fun q hq e => (r.tab q hq).1 (e ▸ hp)
  refine ⟨⟨fun a u h => ?_, r.nd, r.off, fun m a h => ?_, by rw [List.length_set]; exact r.len, fun q hq => ⟨(r.tab q hq).1, (r.tab q hq).2.1, (r.tab q hq).2.2.mono (fun _ _ h => h) (upd_ne (hT q hq))⟩⟩, ⟨Pre.rfl' _, fun _ _ h => h, fun a u h1 _ h2 => ?_, fun a h z => ?_, fun a h => .inl h, fun a h => .inl h, fun a h => ?_⟩⟩
  · have : a ≠ p := fun e => by subst e; rw [hB] at h; cases h
    rw [upd_ne this]; exact r.ex a u h
  · by_cases e : a = p
    · subst e
      have : m = n := by
        obtain ⟨l1, e1⟩ := List.getElem?_eq_some_iff.mp h
        obtain ⟨l2, e2⟩ := List.getElem?_eq_some_iff.mp hn
        exact (List.getElem_inj r.nd).mp (e1.trans e2.symm)
      subst this
      obtain ⟨ob, h1, _⟩ := r.obj m a h
      exact ⟨ao, by rw [List.getElem?_set_self (List.getElem?_eq_some_iff.mp h1).1], ho⟩
    · obtain ⟨ob, h1, h2⟩ := r.obj m a h
      have : n ≠ m := fun z => by subst z; rw [hn] at h; exact e (Option.some.inj h).symm
      exact ⟨ob, by rw [List.getElem?_set_ne this]; exact h1, h2.mono (fun _ _ h => h) (Pre.rfl' _) (upd_ne e)⟩
  · have : a ≠ p := fun e => h1 (e ▸ hp)
    rw [upd_ne this]; exact h2
  · by_cases e : a = p
    · subst e; rw [upd_same] at z; cases z
    · rw [upd_ne e] at z; exact h z
  · by_cases e : a = p
    · subst e; rw [upd_same]; exact nofun
    · rw [upd_ne e]; exact r.there a h
end

/-! ### what is wanted of an outcome -/
section
variable {β α : Type}
def Out (w : Wo) (W : Value → Option Addr → Hp → Prop) (P : List Addr → Hp → β → α → Prop) (ρ : List Addr) (B H : Hp) (r : R α) (Q : β → Hp → Prop) : Prop := match r with
  | .ok d μ' => ∀ ρ' B' H' v, Le ρ B H ρ' B' H' → Rl w ρ' B' μ' H' → P ρ' B' v d → Q v H'
  | .exc c d μ' => ∀ ρ' B' H' dx v, Le ρ B H ρ' B' H' → Rl w ρ' B' μ' H' → B' dx = some (.xd [("value", v)]) → Rep w ρ' B' v d → W (.ref (w.cls c)) (some dx) H'
  | .bad => False
variable {w : Wo} {W : Value → Option Addr → Hp → Prop} {P : List Addr → Hp → β → α → Prop} {ρ ρ1 : List Addr} {B B1 H H1 : Hp} {r : R α} {Q Q' : β → Hp → Prop}
theorem Out.step (l : Le ρ B H ρ1 B1 H1) (o : Out w W P ρ B H r Q) : Out w W P ρ1 B1 H1 r Q := by
  cases r with
  | ok d μ => exact fun ρ' B' H' v l' => o ρ' B' H' v (l.trans l')
  | exc c d μ => exact fun ρ' B' H' dx v l' => o ρ' B' H' dx v (l.trans l')
  | bad => exact o
theorem Out.imp (o : Out w W P ρ B H r Q) (h : ∀ v H', Q v H' → Q' v H') : Out w W P ρ B H r Q' := by
  cases r with
  | ok d μ => exact fun ρ' B' H' v l' a b => h v H' (o ρ' B' H' v l' a b)
  | exc c d μ => exact o
  | bad => exact o
theorem Out.bind {γ δ : Type} {P' : List Addr → Hp → γ → δ → Prop} {k : α → Store → R δ} {Q : γ → Hp → Prop} (o : Out w W P' ρ B H (r.bind k) Q) :
    Out w W P ρ B H r (fun x H1 => ∃ ρ1 B1 d μ1, Le ρ B H ρ1 B1 H1 ∧ Rl w ρ1 B1 μ1 H1 ∧ P ρ1 B1 x d ∧ r = .ok d μ1 ∧ Out w W P' ρ1 B1 H1 (k d μ1) Q) := by
  cases r with
  | ok d μ => exact fun ρ' B' H' v l a b => ⟨ρ', B', d, μ, l, a, b, rfl, Out.step l o⟩
  | exc c d μ => exact o
  | bad => exact o
end
/-! ### readings -/
inductive RSl (w : Wo) (ρ : List Addr) (B : Hp) : L2.St → Slots → Prop
  | nil : RSl w ρ B [] []
  | some {v : V} {d : AD} {σ : L2.St} {s : Slots} : Rep w ρ B v d → RSl w ρ B σ s → RSl w ρ B (some v :: σ) (some d :: s)
  | none {v : Option V} {σ : L2.St} {s : Slots} : RSl w ρ B σ s → RSl w ρ B (v :: σ) (none :: s)
section
variable {w : Wo} {ρ ρ' : List Addr} {B B' : Hp} {σ : L2.St} {s : Slots}
theorem RSl.mono (e : Ex B B') (p : Pre ρ ρ') : ∀ {σ : L2.St} {s : Slots}, RSl w ρ B σ s → RSl w ρ' B' σ s
  | _, _, .nil => .nil
  | _, _, .some r q => .some (r.mono e p) (RSl.mono e p q)
  | _, _, .none q => .none (RSl.mono e p q)
theorem RSl.get : ∀ {σ : L2.St} {s : Slots} {i : Nat} {d : AD}, RSl w ρ B σ s → s[i]? = .some (.some d) → ∃ v, σ[i]? = .some (.some v) ∧ Rep w ρ B v d
  | _, _, i, d, .nil, h => by simp at h
  | _, _, 0, d, .some r q, h => by
    cases h
    exact ⟨_, rfl, r⟩
  | _, _, 0, d, .none q, h => by simp at h
  | _, _, i + 1, d, .some r q, h => by
    obtain ⟨v, h1, h2⟩ := RSl.get (i := i) (d := d) q (by simpa using h)
    exact ⟨v, by simpa using h1, h2⟩
  | _, _, i + 1, d, .none q, h => by
    obtain ⟨v, h1, h2⟩ := RSl.get (i := i) (d := d) q (by simpa using h)
    exact ⟨v, by simpa using h1, h2⟩
theorem RSl.set {v : V} {d : AD} (r : Rep w ρ B v d) : ∀ {σ : L2.St} {s : Slots} (i : Nat), RSl w ρ B σ s → RSl w ρ B (σ.set i (.some v)) (s.set i (.some d))
  | _, _, _, .nil => .nil
  | _, _, 0, .some _ q => .some r q
  | _, _, 0, .none q => .some r q
  | _, _, i + 1, .some p q => .some p (RSl.set r i q)
  | _, _, i + 1, .none q => .none (RSl.set r i q)
theorem RSl.le {H H' : Hp} (l : Le ρ B H ρ' B' H') (h : RSl w ρ B σ s) : RSl w ρ' B' σ s := h.mono l.ex l.pre
end
abbrev PV (w : Wo) : List Addr → Hp → V → AD → Prop := fun ρ B v d => Rep w ρ B v d
abbrev PB : List Addr → Hp → Bool → Bool → Prop := fun _ _ a b => a = b
abbrev PL (w : Wo) : List Addr → Hp → List V → List AD → Prop := fun ρ B v d => Reps w ρ B v d
def lift (w : Wo) (W : WX) (f : SE) : TE := fun σ H Q => ∃ ρ B s μ, Rl w ρ B μ H ∧ RSl w ρ B σ s ∧ Out w (fun c d H' => W c d σ H') (PV w) ρ B H (f s μ) Q
def liftT (w : Wo) (W : WX) (f : ST) : TT := fun σ H Q => ∃ ρ B s μ, Rl w ρ B μ H ∧ RSl w ρ B σ s ∧ Out w (fun c d H' => W c d σ H') PB ρ B H (f s μ) Q
def liftA (w : Wo) (W : WX) (f : SA) : TA := fun σ H Q => ∃ ρ B s μ, Rl w ρ B μ H ∧ RSl w ρ B σ s ∧ Out w (fun c d H' => W c d σ H') (PL w) ρ B H (f s μ) Q
/-- a statement's -/
def SOut (w : Wo) (W : WX) (ρ : List Addr) (B H : Hp) (r : SR) (D : Ends) : Prop := match r with
  | .nx s μ' => ∀ ρ' B' H' σ', Le ρ B H ρ' B' H' → Rl w ρ' B' μ' H' → RSl w ρ' B' σ' s → D.nx σ' H'
  | .bk s μ' => ∀ ρ' B' H' σ', Le ρ B H ρ' B' H' → Rl w ρ' B' μ' H' → RSl w ρ' B' σ' s → D.bk σ' H'
  | .ct s μ' => ∀ ρ' B' H' σ', Le ρ B H ρ' B' H' → Rl w ρ' B' μ' H' → RSl w ρ' B' σ' s → D.ct σ' H'
  | .rt d μ' => ∀ ρ' B' H' v, Le ρ B H ρ' B' H' → Rl w ρ' B' μ' H' → Rep w ρ' B' v d → D.rt v H'
  | .exc c d s μ' => ∀ ρ' B' H' dx v σ', Le ρ B H ρ' B' H' → Rl w ρ' B' μ' H' → RSl w ρ' B' σ' s → B' dx = some (.xd [("value", v)]) → Rep w ρ' B' v d → W (.ref (w.cls c)) (some dx) σ' H'
  | .bad => False
def liftS (w : Wo) (W : WX) (f : SS) : TS := fun D σ H => ∃ ρ B s μ, Rl w ρ B μ H ∧ RSl w ρ B σ s ∧ SOut w W ρ B H (f s μ) D
theorem SOut.step {w : Wo} {W : WX} {ρ ρ1 : List Addr} {B H B1 H1 : Hp} {r : SR} {D : Ends} (l : Le ρ B H ρ1 B1 H1) (o : SOut w W ρ B H r D) : SOut w W ρ1 B1 H1 r D := by
  cases r with
  | nx s μ => exact fun ρ' B' H' σ' l' => o ρ' B' H' σ' (l.trans l')
  | bk s μ => exact fun ρ' B' H' σ' l' => o ρ' B' H' σ' (l.trans l')
  | ct s μ => exact fun ρ' B' H' σ' l' => o ρ' B' H' σ' (l.trans l')
  | rt d μ => exact fun ρ' B' H' v l' => o ρ' B' H' v (l.trans l')
  | exc c d s μ => exact fun ρ' B' H' dx v σ' l' => o ρ' B' H' dx v σ' (l.trans l')
  | bad => exact o
/-- a statement's outcome behind an expression's -/
def R.st (r : R AD) (s : Slots) (k : AD → Store → SR) : SR := match r with
  | .ok d μ => k d μ
  | .exc c d μ => .exc c d s μ
  | .bad => .bad
def R.stT (r : R Bool) (s : Slots) (k : Bool → Store → SR) : SR := match r with
  | .ok d μ => k d μ
  | .exc c d μ => .exc c d s μ
  | .bad => .bad
section
variable {w : Wo} {W : WX} {ρ : List Addr} {B H : Hp} {D : Ends} {σ : L2.St} {s : Slots}
theorem SOut.st {r : R AD} {k : AD → Store → SR} (rs : RSl w ρ B σ s) (o : SOut w W ρ B H (r.st s k) D) :
    Out w (fun c d H' => W c d σ H') (PV w) ρ B H r (fun x H1 => ∃ ρ1 B1 d μ1, Le ρ B H ρ1 B1 H1 ∧ Rl w ρ1 B1 μ1 H1 ∧ Rep w ρ1 B1 x d ∧ SOut w W ρ1 B1 H1 (k d μ1) D) := by
  cases r with
  | ok d μ => exact fun ρ' B' H' v l a b => ⟨ρ', B', d, μ, l, a, b, SOut.step l o⟩
  | exc c d μ => exact fun ρ' B' H' dx v l a b e => o ρ' B' H' dx v σ l a (rs.le l) b e
  | bad => exact o
theorem SOut.stT {r : R Bool} {k : Bool → Store → SR} (rs : RSl w ρ B σ s) (o : SOut w W ρ B H (r.stT s k) D) :
    Out w (fun c d H' => W c d σ H') PB ρ B H r (fun x H1 => ∃ ρ1 B1 μ1, Le ρ B H ρ1 B1 H1 ∧ Rl w ρ1 B1 μ1 H1 ∧ SOut w W ρ1 B1 H1 (k x μ1) D) := by
  cases r with
  | ok d μ =>
    intro ρ' B' H' v l a b
    have b : v = d := b
    subst b
    exact ⟨ρ', B', μ, l, a, SOut.step l o⟩
  | exc c d μ => exact fun ρ' B' H' dx v l a b e => o ρ' B' H' dx v σ l a (rs.le l) b e
  | bad => exact o
end
end SC

set_option Elab.async false
set_option linter.all false
set_option maxRecDepth 100000
set_option maxHeartbeats 2000000
namespace SC
open PySem PySem.Spec PyProof.Rows L2
/-! ### the functions -/
def eVar (i : Nat) : SE := fun s μ => match s[i]? with | some (some d) => .ok d μ | _ => .bad
def eC (d : AD) : SE := fun _ μ => .ok d μ
def aNil : SA := fun _ μ => .ok [] μ
def aCons (f : SE) (g : SA) : SA := fun s μ => (f s μ).bind fun d μ1 => (g s μ1).bind fun ds μ2 => .ok (d :: ds) μ2
def chk {α : Type} (b : Bool) (r : R α) : R α := if b then r else .bad
def eTup (f : SA) : SE := fun s μ => (f s μ).bind fun ds μ1 => chk (decide (ds.length ≤ sizeLine)) (.ok (.tup ds) μ1)
/-- a list that is never changed -/
def eLst (f : SA) : SE := fun s μ => (f s μ).bind fun ds μ1 => chk (decide (ds.length ≤ sizeLine)) (.ok (.lst ds) μ1)
/-- a list of one's own -/
def eOwn (f : SA) : SE := fun s μ => (f s μ).bind fun ds μ1 => chk (decide (ds.length ≤ sizeLine)) (.ok (.ref μ1.length) (μ1 ++ [.lst ds]))
def eOp (g : AD → AD → Store → R AD) (f1 f2 : SE) : SE := fun s μ => (f1 s μ).bind fun x μ1 => (f2 s μ1).bind fun y μ2 => g x y μ2
def eUn (g : AD → Store → R AD) (f : SE) : SE := fun s μ => (f s μ).bind fun x μ1 => g x μ1
/-- a function on values: builtins -/
def eB (g : List AD → Store → R AD) (f : SA) : SE := fun s μ => (f s μ).bind fun xs μ1 => g xs μ1
def tV (f : SE) : ST := fun s μ => (f s μ).bind fun x μ1 => match x with | .bl b => .ok b μ1 | _ => .bad
def tAndF (f g : ST) : ST := fun s μ => (f s μ).bind fun b μ1 => if b then g s μ1 else .ok false μ1
def tOrF (f g : ST) : ST := fun s μ => (f s μ).bind fun b μ1 => if b then .ok true μ1 else g s μ1
def tNotF (f : ST) : ST := fun s μ => (f s μ).bind fun b μ1 => .ok (!b) μ1
def eAnd (f g : SE) : SE := fun s μ => (f s μ).bind fun x μ1 => match x with | .bl b => if b then g s μ1 else .ok (.bl false) μ1 | _ => .bad
def eOr (f g : SE) : SE := fun s μ => (f s μ).bind fun x μ1 => match x with | .bl b => if b then .ok (.bl true) μ1 else g s μ1 | _ => .bad
def eNot (f : SE) : SE := fun s μ => (f s μ).bind fun x μ1 => match x with | .bl b => .ok (.bl (!b)) μ1 | _ => .bad
def eIf (c : ST) (f g : SE) : SE := fun s μ => (c s μ).bind fun b μ1 => if b then f s μ1 else g s μ1
/-- statements -/
def sPass : SS := fun s μ => .nx s μ
def sSeq (f g : SS) : SS := fun s μ => match f s μ with | .nx s1 μ1 => g s1 μ1 | r => r
def sSet (i : Nat) (f : SE) : SS := fun s μ => (f s μ).st s fun d μ1 => .nx (s.set i (some d)) μ1
def sDrop (f : SE) : SS := fun s μ => (f s μ).st s fun _ μ1 => .nx s μ1
def sRet (f : SE) : SS := fun s μ => (f s μ).st s fun d μ1 => .rt d μ1
def sIf (c : ST) (f g : SS) : SS := fun s μ => (c s μ).stT s fun b μ1 => if b then f s μ1 else g s μ1
def sBrk : SS := fun s μ => .bk s μ
def sCnt : SS := fun s μ => .ct s μ

theorem PE_imp {X : Cx} {e : Expr} {t t' : TE} (h : PE X e t) (i : ∀ σ H Q, t' σ H Q → t σ H Q) : PE X e t' := ⟨fun pins s σ H Q I q => h.run pins s σ H Q I (i σ H Q q)⟩
theorem PT_imp {X : Cx} {e : Expr} {t t' : TT} (h : PT X e t) (i : ∀ σ H Q, t' σ H Q → t σ H Q) : PT X e t' := ⟨fun pins s σ H Q I q => h.run pins s σ H Q I (i σ H Q q)⟩
theorem PA_imp {X : Cx} {e : List Expr} {t t' : TA} (h : PA X e t) (i : ∀ σ H Q, t' σ H Q → t σ H Q) : PA X e t' := ⟨fun pos pins s σ H Q I q => h.run pos pins s σ H Q I (i σ H Q q)⟩
theorem PS_imp {X : Cx} {e : Stmt} {t t' : TS} (h : PS X e t) (i : ∀ D σ H, t' D σ H → t D σ H) : PS X e t' := ⟨fun pins s σ H D I q => h.run pins s σ H D I (i D σ H q)⟩
theorem PSs_imp {X : Cx} {e : List Stmt} {t t' : TS} (h : PSs X e t) (i : ∀ D σ H, t' D σ H → t D σ H) : PSs X e t' := ⟨fun pins s σ H D I q => h.run pins s σ H D I (i D σ H q)⟩
section
variable {X : Cx} {w : Wo} {W : WX}
/-! ### names, constants -/
theorem lift_var {i : Nat} {σ : L2.St} {H : Hp} {Q : VK} (h : lift w W (eVar i) σ H Q) : tVar i σ H Q := by
  obtain ⟨ρ, B, s, μ, rl, rs, o⟩ := h
  unfold eVar at o
  cases e : s[i]? with
  | none => rw [e] at o; exact o.elim
  | some u =>
    cases u with
    | none => rw [e] at o; exact o.elim
    | some d =>
      rw [e] at o
      obtain ⟨v, h1, h2⟩ := rs.get e
      exact ⟨v, h1, o ρ B H v (Le.rfl' rl) rl h2⟩
theorem lift_c {v : V} {d : AD} (hv : ∀ ρ B, Rep w ρ B v d) {σ : L2.St} {H : Hp} {Q : VK} (h : lift w W (eC d) σ H Q) : tC v σ H Q := by
  obtain ⟨ρ, B, s, μ, rl, rs, o⟩ := h
  exact o ρ B H v (Le.rfl' rl) rl (hv ρ B)
theorem rv (i : Nat) {x : Str} {pos : Pos} (hN : X.N[i]? = some x := by rfl) (hv : Vis X.env.scope x := by first | exact Or.inl rfl | exact Or.inr (Or.inl rfl) | exact Or.inr (Or.inr rfl)) (hd : (x == ("__debug__" : Str)) = false := by decide)
    (hcd : (x == ("__classdict__" : Str)) = false := by decide) : PE X (.Name x pos) (lift w W (eVar i)) := PE_imp (pe_var hN hv hd hcd) fun _ _ _ => lift_var
theorem r_int {i j pos} : PE X (.Constant (.int i) j pos) (lift w W (eC (.int i))) := PE_imp pe_int fun _ _ _ => lift_c fun _ _ => .int i
theorem r_bl {b j pos} : PE X (.Constant (.bool b) j pos) (lift w W (eC (.bl b))) := PE_imp pe_bl fun _ _ _ => lift_c fun _ _ => .bl b
theorem r_non {j pos} : PE X (.Constant .none j pos) (lift w W (eC .non)) := PE_imp pe_non fun _ _ _ => lift_c fun _ _ => .non
theorem r_str {x j pos} : PE X (.Constant (.str x) j pos) (lift w W (eC (.str x))) := PE_imp pe_str fun _ _ _ => lift_c fun _ _ => .str x
/-- a module's constant: an int, a text -/
theorem r_gint {x : Str} {i : Int} {pos : Pos} (hm : ∃ t, X.mg x = some (.int i t)) (hg : Gl X x := by rfl) (hd : (x == ("__debug__" : Str)) = false := by decide) : PE X (.Name x pos) (lift w W (eC (.int i))) := by
  obtain ⟨t, hm⟩ := hm
  exact PE_imp (pe_glob hg hm (v := .int i) ⟨t, rfl⟩ hd) fun _ _ _ => lift_c fun _ _ => .int i
theorem r_gstr {x z : Str} {pos : Pos} (hm : ∃ t, X.mg x = some (.str z t)) (hg : Gl X x := by rfl) (hd : (x == ("__debug__" : Str)) = false := by decide) : PE X (.Name x pos) (lift w W (eC (.str z))) := by
  obtain ⟨t, hm⟩ := hm
  exact PE_imp (pe_glob hg hm (v := .str z) ⟨t, rfl⟩ hd) fun _ _ _ => lift_c fun _ _ => .str z

/-! ### two in a row -/
theorem lift_two {σ : L2.St} {H : Hp} {fa fb : SE} {γ δ : Type} {P' : List Addr → Hp → γ → δ → Prop} {k : AD → AD → Store → R δ} {Q : γ → Hp → Prop} {R' : V → V → Hp → Prop} {ρ : List Addr} {B : Hp} {s : Slots} {μ : Store} (rl : Rl w ρ B μ H) (rs : RSl w ρ B σ s)
    (o : Out w (fun c d H' => W c d σ H') P' ρ B H ((fa s μ).bind fun x μ1 => (fb s μ1).bind fun y μ2 => k x y μ2) Q)
    (hr : ∀ x y dx dy ρ2 B2 H2 μ2, Rl w ρ2 B2 μ2 H2 → RSl w ρ2 B2 σ s → Rep w ρ2 B2 x dx → Rep w ρ2 B2 y dy → Out w (fun c d H' => W c d σ H') P' ρ2 B2 H2 (k dx dy μ2) Q → R' x y H2) :
    lift w W fa σ H fun x H1 => lift w W fb σ H1 fun y H2 => R' x y H2 := by
  refine ⟨ρ, B, s, μ, rl, rs, Out.imp (Out.bind (P := PV w) o) fun x H1 ⟨ρ1, B1, d, μ1, l1, rl1, p1, _, o1⟩ => ?_⟩
  refine ⟨ρ1, B1, s, μ1, rl1, rs.le l1, Out.imp (Out.bind (P := PV w) o1) fun y H2 ⟨ρ2, B2, e, μ2, l2, rl2, p2, _, o2⟩ => ?_⟩
  exact hr x y d e ρ2 B2 H2 μ2 rl2 ((rs.le l1).le l2) (Rep.mono l2.ex l2.pre p1) p2 o2
/-- an operation on data is what the operation on values asks -/
def OpS (w : Wo) (r : R2) (g : AD → AD → Store → R AD) : Prop := ∀ (W : Value → Option Addr → Hp → Prop) x y dx dy ρ B H μ Q, Rl w ρ B μ H → Rep w ρ B x dx → Rep w ρ B y dy → Out w W (PV w) ρ B H (g dx dy μ) Q → r x y H Q
theorem lift_op {r : R2} {g : AD → AD → Store → R AD} (hg : OpS w r g) {fa fb : SE} {σ : L2.St} {H : Hp} {Q : VK} (h : lift w W (eOp g fa fb) σ H Q) : tOp r (lift w W fa) (lift w W fb) σ H Q := by
  obtain ⟨ρ, B, s, μ, rl, rs, o⟩ := h
  exact lift_two (R' := fun x y H2 => r x y H2 Q) rl rs o fun x y dx dy ρ2 B2 H2 μ2 rl2 rs2 p1 p2 o2 => hg _ x y dx dy ρ2 B2 H2 μ2 Q rl2 p1 p2 o2
variable {a b : Expr} {fa fb : SE} {pos : Pos}
theorem r_op {op : Operator} {r : R2} {g : AD → AD → Store → R AD} (ho : OpR X (binaryOp op) r) (hg : OpS w r g) (ha : PE X a (lift w W fa)) (hb : PE X b (lift w W fb)) : PE X (.BinOp a op b pos) (lift w W (eOp g fa fb)) :=
  PE_imp (pe_op ho ha hb) fun _ _ _ => lift_op hg
theorem r_cmp {op : CmpOp} {r : R2} {g : AD → AD → Store → R AD} (ho : OpR X (compareOp op) r) (hg : OpS w r g) (ha : PE X a (lift w W fa)) (hb : PE X b (lift w W fb)) (hm : behindInMarks op b = false := by first | exact nomark _ | rfl) : PE X (.Compare a [op] [b] pos) (lift w W (eOp g fa fb)) :=
  PE_imp (pe_cmpR ho ha hb hm) fun _ _ _ => lift_op hg
theorem r_ix {r : R2} {g : AD → AD → Store → R AD} (hr : IxR X r) (hg : OpS w r g) (ha : PE X a (lift w W fa)) (hb : PE X b (lift w W fb)) (hs : PlainIx b := by exact fun _ _ => rfl) : PE X (.Subscript a b pos) (lift w W (eOp g fa fb)) :=
  PE_imp (pe_ix hr ha hb hs) fun _ _ _ => lift_op hg
def UnS (w : Wo) (r : V → Hp → VK → Prop) (g : AD → Store → R AD) : Prop := ∀ (W : Value → Option Addr → Hp → Prop) x dx ρ B H μ Q, Rl w ρ B μ H → Rep w ρ B x dx → Out w W (PV w) ρ B H (g dx μ) Q → r x H Q
theorem lift_one {σ : L2.St} {H : Hp} {γ δ : Type} {P' : List Addr → Hp → γ → δ → Prop} {k : AD → Store → R δ} {Q : γ → Hp → Prop} {R' : V → Hp → Prop} {ρ : List Addr} {B : Hp} {s : Slots} {μ : Store} (rl : Rl w ρ B μ H) (rs : RSl w ρ B σ s)
    (o : Out w (fun c d H' => W c d σ H') P' ρ B H ((fa s μ).bind k) Q)
    (hr : ∀ x dx ρ2 B2 H2 μ2, Le ρ B H ρ2 B2 H2 → Rl w ρ2 B2 μ2 H2 → RSl w ρ2 B2 σ s → Rep w ρ2 B2 x dx → Out w (fun c d H' => W c d σ H') P' ρ2 B2 H2 (k dx μ2) Q → R' x H2) : lift w W fa σ H R' :=
  ⟨ρ, B, s, μ, rl, rs, Out.imp (Out.bind (P := PV w) o) fun x H1 ⟨ρ1, B1, d, μ1, l1, rl1, p1, _, o1⟩ => hr x d ρ1 B1 H1 μ1 l1 rl1 (rs.le l1) p1 o1⟩
theorem r_un {op : UnaryOp} {r : V → Hp → VK → Prop} {g : AD → Store → R AD} (ho : UnR X (unaryOp op) r) (hg : UnS w r g) (ha : PE X a (lift w W fa)) : PE X (.UnaryOp op a pos) (lift w W (eUn g fa)) :=
  PE_imp (pe_un ho ha) fun σ H Q h => by
    obtain ⟨ρ, B, s, μ, rl, rs, o⟩ := h
    exact lift_one rl rs o fun x dx ρ2 B2 H2 μ2 _ rl2 _ p o2 => hg _ x dx ρ2 B2 H2 μ2 Q rl2 p o2
/-! ### arguments, displays -/
theorem ra_nil : PA X [] (liftA w W aNil) := PA_imp pa_nil fun σ H Q ⟨ρ, B, s, μ, rl, rs, o⟩ => o ρ B H [] (Le.rfl' rl) rl .nil
theorem ra_cons {e : Expr} {es : List Expr} {f : SE} {g : SA} (ha : PE X e (lift w W f)) (hr : PA X es (liftA w W g)) (hs : starEach (e :: es) X.env = (false, eval e X.env) :: starEach es X.env := by rfl) : PA X (e :: es) (liftA w W (aCons f g)) :=
  PA_imp (pa_cons ha hr hs) fun σ H Q h => by
    obtain ⟨ρ, B, s, μ, rl, rs, o⟩ := h
    refine lift_one rl rs o fun x dx ρ2 B2 H2 μ2 _ rl2 rs2 p o2 => ?_
    refine ⟨ρ2, B2, s, μ2, rl2, rs2, Out.imp (Out.bind (P := PL w) o2) fun xs H3 ⟨ρ3, B3, ds, μ3, l3, rl3, p3, _, o3⟩ => ?_⟩
    exact o3 ρ3 B3 H3 (x :: xs) (Le.rfl' rl3) rl3 (.cons (Rep.mono l3.ex l3.pre p) p3)
theorem liftA_k {f : SA} {σ : L2.St} {H : Hp} {γ δ : Type} {P' : List Addr → Hp → γ → δ → Prop} {k : List AD → Store → R δ} {Q : γ → Hp → Prop} {R' : List V → Hp → Prop} {ρ : List Addr} {B : Hp} {s : Slots} {μ : Store} (rl : Rl w ρ B μ H) (rs : RSl w ρ B σ s)
    (o : Out w (fun c d H' => W c d σ H') P' ρ B H ((f s μ).bind k) Q)
    (hr : ∀ xs ds ρ2 B2 H2 μ2, Le ρ B H ρ2 B2 H2 → Rl w ρ2 B2 μ2 H2 → RSl w ρ2 B2 σ s → Reps w ρ2 B2 xs ds → Out w (fun c d H' => W c d σ H') P' ρ2 B2 H2 (k ds μ2) Q → R' xs H2) : liftA w W f σ H R' :=
  ⟨ρ, B, s, μ, rl, rs, Out.imp (Out.bind (P := PL w) o) fun x H1 ⟨ρ1, B1, d, μ1, l1, rl1, p1, _, o1⟩ => hr x d ρ1 B1 H1 μ1 l1 rl1 (rs.le l1) p1 o1⟩
theorem chk_out {β α : Type} {W : Value → Option Addr → Hp → Prop} {P : List Addr → Hp → β → α → Prop} {ρ : List Addr} {B H : Hp} {c : Bool} {r : R α} {Q : β → Hp → Prop} (o : Out w W P ρ B H (chk c r) Q) : c = true ∧ Out w W P ρ B H r Q := by
  unfold chk at o
  cases c with
  | true => exact ⟨rfl, o⟩
  | false => exact o.elim
theorem r_tup {es : List Expr} {f : SA} {x1} (h : PA X es (liftA w W f)) : PE X (.Tuple es x1 pos) (lift w W (eTup f)) :=
  PE_imp (pe_tup h) fun σ H Q hq => by
    obtain ⟨ρ, B, s, μ, rl, rs, o⟩ := hq
    refine liftA_k rl rs o fun xs ds ρ2 B2 H2 μ2 _ rl2 rs2 p o2 => ?_
    obtain ⟨hc, o3⟩ := chk_out o2
    refine ⟨by rw [p.length]; exact of_decide_eq_true hc, fun a ha => ?_⟩
    obtain ⟨k1, k2⟩ := rl2.known (o := .tup xs) ha
    exact o3 _ _ _ _ k2 k1 (.tup (SqT.of upd_same) (p.mono k2.ex k2.pre))
theorem r_lst {es : List Expr} {f : SA} (h : PA X es (liftA w W f)) : PE X (.List es pos) (lift w W (eLst f)) :=
  PE_imp (pe_lst h) fun σ H Q hq => by
    obtain ⟨ρ, B, s, μ, rl, rs, o⟩ := hq
    refine liftA_k rl rs o fun xs ds ρ2 B2 H2 μ2 _ rl2 rs2 p o2 => ?_
    obtain ⟨hc, o3⟩ := chk_out o2
    refine ⟨by rw [p.length]; exact of_decide_eq_true hc, fun a ha => ?_⟩
    obtain ⟨k1, k2⟩ := rl2.known (o := .lst xs) ha
    exact o3 _ _ _ _ k2 k1 (.lst upd_same (p.mono k2.ex k2.pre))
theorem own_lst {W : Value → Option Addr → Hp → Prop} {ρ : List Addr} {B H : Hp} {μ : Store} {xs : List V} {ds : List AD} {a : Addr} {Q : VK} (rl : Rl w ρ B μ H) (p : Reps w ρ B xs ds) (ha : H a = none) (o : Out w W (PV w) ρ B H (.ok (.ref μ.length) (μ ++ [.lst ds])) Q) : Q (.ref a) (upd H a (.lst xs)) := by
  obtain ⟨k1, k2⟩ := rl.own (ao := .lst ds) (o := .lst xs) ha ⟨xs, upd_same, p.mono (fun _ _ h => h) ⟨[a], rfl⟩⟩
  exact o _ _ _ _ k2 k1 (.ref (by rw [← rl.len]; simp))
theorem r_own {es : List Expr} {f : SA} (h : PA X es (liftA w W f)) : PE X (.List es pos) (lift w W (eOwn f)) :=
  PE_imp (pe_lst h) fun σ H Q hq => by
    obtain ⟨ρ, B, s, μ, rl, rs, o⟩ := hq
    refine liftA_k rl rs o fun xs ds ρ2 B2 H2 μ2 _ rl2 rs2 p o2 => ?_
    obtain ⟨hc, o3⟩ := chk_out o2
    exact ⟨by rw [p.length]; exact of_decide_eq_true hc, fun a ha => own_lst rl2 p ha o3⟩
/-! ### builtins by values -/
def CallS (w : Wo) (r : List V → Hp → VK → Prop) (g : List AD → Store → R AD) : Prop := ∀ (W : Value → Option Addr → Hp → Prop) xs ds ρ B H μ Q, Rl w ρ B μ H → Reps w ρ B xs ds → Out w W (PV w) ρ B H (g ds μ) Q → r xs H Q
/-! ### tests -/
theorem rt_v {e : Expr} {f : SE} (h : PE X e (lift w W f)) (he : ∀ whole, isTrue e X.env whole = (do let v ← whole; standAt e.pos; holding [v] (truthy v)) := by intro _; rfl) : PT X e (liftT w W (tV f)) :=
  PT_imp (pt_val h he) fun σ H Q hq => by
    obtain ⟨ρ, B, s, μ, rl, rs, o⟩ := hq
    refine lift_one rl rs o fun x dx ρ2 B2 H2 μ2 _ rl2 rs2 p o2 => ?_
    cases p with
    | bl b => exact ⟨b, rfl, o2 _ _ _ b (Le.rfl' rl2) rl2 rfl⟩
    | _ => exact o2.elim
theorem rt_cmp {op : CmpOp} {r : R2} {g : AD → AD → Store → R AD} (ho : OpR X (compareOp op) r) (hg : OpS w r g) (ha : PE X a (lift w W fa)) (hb : PE X b (lift w W fb)) (hm : behindInMarks op b = false := by first | exact nomark _ | rfl) : PT X (.Compare a [op] [b] pos) (liftT w W (tV (eOp g fa fb))) :=
  PT_imp (pt_cmpR ho ha hb hm) fun σ H Q hq => by
    obtain ⟨ρ, B, s, μ, rl, rs, o⟩ := hq
    have o' : Out w (fun c d H' => W c d σ H') PB ρ B H (((eOp g fa fb) s μ).bind fun x μ1 => match x with | .bl b => .ok b μ1 | _ => .bad) Q := o
    have h2 : lift w W (eOp g fa fb) σ H fun x H' => ∃ k, x = .bl k ∧ Q k H' :=
      lift_one rl rs o' fun x dx ρ2 B2 H2 μ2 _ rl2 rs2 p o2 => by
        cases p with
        | bl b => exact ⟨b, rfl, o2 _ _ _ b (Le.rfl' rl2) rl2 rfl⟩
        | _ => exact o2.elim
    exact lift_op hg h2
variable {c : Expr} {f1 f2 : ST} {rest : List Expr}
theorem liftT_k {σ : L2.St} {H : Hp} {γ δ : Type} {P' : List Addr → Hp → γ → δ → Prop} {k : Bool → Store → R δ} {Q : γ → Hp → Prop} {R' : Bool → Hp → Prop} {ρ : List Addr} {B : Hp} {s : Slots} {μ : Store} (rl : Rl w ρ B μ H) (rs : RSl w ρ B σ s)
    (o : Out w (fun c d H' => W c d σ H') P' ρ B H ((f1 s μ).bind k) Q)
    (hr : ∀ x ρ2 B2 H2 μ2, Le ρ B H ρ2 B2 H2 → Rl w ρ2 B2 μ2 H2 → RSl w ρ2 B2 σ s → Out w (fun c d H' => W c d σ H') P' ρ2 B2 H2 (k x μ2) Q → R' x H2) : liftT w W f1 σ H R' :=
  ⟨ρ, B, s, μ, rl, rs, Out.imp (Out.bind (P := PB) o) fun x H1 ⟨ρ1, B1, d, μ1, l1, rl1, p1, _, o1⟩ => by
    have p1 : x = d := p1
    subst p1
    exact hr x ρ1 B1 H1 μ1 l1 rl1 (rs.le l1) o1⟩
theorem rw_and1 (h : PT X a (liftT w W f1)) : PW X (.BoolOp .And [a] pos) (liftT w W f1) := pw_and1 h
theorem rw_or1 (h : PT X a (liftT w W f1)) : PW X (.BoolOp .Or [a] pos) (liftT w W f1) := pw_or1 h
theorem PW_imp {e : Expr} {t t' : TT} (h : PW X e t) (i : ∀ σ H Q, t' σ H Q → t σ H Q) : PW X e t' := ⟨fun wh pins s σ H Q I q => h.run wh pins s σ H Q I (i σ H Q q)⟩
theorem rw_and (h1 : PT X a (liftT w W f1)) (h2 : PW X (.BoolOp .And (b :: rest) pos) (liftT w W f2)) : PW X (.BoolOp .And (a :: b :: rest) pos) (liftT w W (tAndF f1 f2)) :=
  PW_imp (pw_and h1 h2) fun σ H Q hq => by
    obtain ⟨ρ, B, s, μ, rl, rs, o⟩ := hq
    refine liftT_k rl rs o fun x ρ2 B2 H2 μ2 _ rl2 rs2 o2 => ?_
    cases x with
    | true => exact ⟨ρ2, B2, s, μ2, rl2, rs2, o2⟩
    | false => exact o2 _ _ _ false (Le.rfl' rl2) rl2 rfl
theorem rw_or (h1 : PT X a (liftT w W f1)) (h2 : PW X (.BoolOp .Or (b :: rest) pos) (liftT w W f2)) : PW X (.BoolOp .Or (a :: b :: rest) pos) (liftT w W (tOrF f1 f2)) :=
  PW_imp (pw_or h1 h2) fun σ H Q hq => by
    obtain ⟨ρ, B, s, μ, rl, rs, o⟩ := hq
    refine liftT_k rl rs o fun x ρ2 B2 H2 μ2 _ rl2 rs2 o2 => ?_
    cases x with
    | false => exact ⟨ρ2, B2, s, μ2, rl2, rs2, o2⟩
    | true => exact o2 _ _ _ true (Le.rfl' rl2) rl2 rfl
theorem rt_w {e : Expr} (h : PW X e (liftT w W f1)) : PT X e (liftT w W f1) := h.pt
theorem rt_not (h : PT X a (liftT w W f1)) : PT X (.UnaryOp .Not a pos) (liftT w W (tNotF f1)) :=
  PT_imp (pt_not h) fun σ H Q hq => by
    obtain ⟨ρ, B, s, μ, rl, rs, o⟩ := hq
    exact liftT_k rl rs o fun x ρ2 B2 H2 μ2 _ rl2 rs2 o2 => o2 _ _ _ _ (Le.rfl' rl2) rl2 rfl
theorem r_one {op} {f : SE} (h : PE X a (lift w W f)) : PE X (.BoolOp op [a] pos) (lift w W f) := pe_one h
theorem r_and (h1 : PE X a (lift w W fa)) (h2 : PE X (.BoolOp .And (b :: rest) pos) (lift w W fb)) : PE X (.BoolOp .And (a :: b :: rest) pos) (lift w W (eAnd fa fb)) :=
  PE_imp (pe_and h1 h2) fun σ H Q hq => by
    obtain ⟨ρ, B, s, μ, rl, rs, o⟩ := hq
    refine lift_one rl rs o fun x dx ρ2 B2 H2 μ2 _ rl2 rs2 p o2 => ?_
    cases p with
    | bl b =>
      refine ⟨b, rfl, ?_⟩
      cases b with
      | true => exact ⟨ρ2, B2, s, μ2, rl2, rs2, o2⟩
      | false => exact o2 _ _ _ (.bl false) (Le.rfl' rl2) rl2 (.bl false)
    | _ => exact o2.elim
theorem r_or (h1 : PE X a (lift w W fa)) (h2 : PE X (.BoolOp .Or (b :: rest) pos) (lift w W fb)) : PE X (.BoolOp .Or (a :: b :: rest) pos) (lift w W (eOr fa fb)) :=
  PE_imp (pe_or h1 h2) fun σ H Q hq => by
    obtain ⟨ρ, B, s, μ, rl, rs, o⟩ := hq
    refine lift_one rl rs o fun x dx ρ2 B2 H2 μ2 _ rl2 rs2 p o2 => ?_
    cases p with
    | bl b =>
      refine ⟨b, rfl, ?_⟩
      cases b with
      | false => exact ⟨ρ2, B2, s, μ2, rl2, rs2, o2⟩
      | true => exact o2 _ _ _ (.bl true) (Le.rfl' rl2) rl2 (.bl true)
    | _ => exact o2.elim
theorem r_not (h1 : PE X a (lift w W fa)) : PE X (.UnaryOp .Not a pos) (lift w W (eNot fa)) :=
  PE_imp (pe_not h1) fun σ H Q hq => by
    obtain ⟨ρ, B, s, μ, rl, rs, o⟩ := hq
    refine lift_one rl rs o fun x dx ρ2 B2 H2 μ2 _ rl2 rs2 p o2 => ?_
    cases p with
    | bl b => exact ⟨b, rfl, o2 _ _ _ (.bl (!b)) (Le.rfl' rl2) rl2 (.bl _)⟩
    | _ => exact o2.elim
theorem r_if (hc : PT X c (liftT w W f1)) (h1 : PE X a (lift w W fa)) (h2 : PE X b (lift w W fb)) : PE X (.IfExp c a b pos) (lift w W (eIf f1 fa fb)) :=
  PE_imp (pe_ifExp hc h1 h2) fun σ H Q hq => by
    obtain ⟨ρ, B, s, μ, rl, rs, o⟩ := hq
    refine liftT_k rl rs o fun x ρ2 B2 H2 μ2 _ rl2 rs2 o2 => ?_
    cases x with
    | true => exact ⟨ρ2, B2, s, μ2, rl2, rs2, o2⟩
    | false => exact ⟨ρ2, B2, s, μ2, rl2, rs2, o2⟩
end
end SC

set_option Elab.async false
set_option linter.all false
set_option maxRecDepth 100000
set_option maxHeartbeats 2000000
namespace SC
open PySem PySem.Spec PyProof.Rows L2
section
variable {X : Cx} {w : Wo} {W : WX}
/-! ### statements -/
theorem SOut.imp {ρ : List Addr} {B H : Hp} {r : SR} {D D' : Ends} (o : SOut w W ρ B H r D) (h1 : ∀ σ H, D.nx σ H → D'.nx σ H) (h2 : ∀ v H, D.rt v H → D'.rt v H) (h3 : ∀ σ H, D.bk σ H → D'.bk σ H) (h4 : ∀ σ H, D.ct σ H → D'.ct σ H) : SOut w W ρ B H r D' := by
  cases r with
  | nx s μ => exact fun ρ' B' H' σ' l a b => h1 _ _ (o ρ' B' H' σ' l a b)
  | bk s μ => exact fun ρ' B' H' σ' l a b => h3 _ _ (o ρ' B' H' σ' l a b)
  | ct s μ => exact fun ρ' B' H' σ' l a b => h4 _ _ (o ρ' B' H' σ' l a b)
  | rt d μ => exact fun ρ' B' H' v l a b => h2 _ _ (o ρ' B' H' v l a b)
  | exc c d s μ => exact o
  | bad => exact o
theorem rss_nil : PSs X [] (liftS w W sPass) := PSs_imp pss_nil fun D σ H ⟨ρ, B, s, μ, rl, rs, o⟩ => o ρ B H σ (Le.rfl' rl) rl rs
theorem rs_pass {pos : Pos} : PS X (.Pass pos) (liftS w W sPass) := PS_imp ps_pass fun D σ H ⟨ρ, B, s, μ, rl, rs, o⟩ => o ρ B H σ (Le.rfl' rl) rl rs
theorem rs_brk {pos : Pos} : PS X (.Break pos) (liftS w W sBrk) := PS_imp ps_break fun D σ H ⟨ρ, B, s, μ, rl, rs, o⟩ => o ρ B H σ (Le.rfl' rl) rl rs
theorem rs_cnt {pos : Pos} : PS X (.Continue pos) (liftS w W sCnt) := PS_imp ps_continue fun D σ H ⟨ρ, B, s, μ, rl, rs, o⟩ => o ρ B H σ (Le.rfl' rl) rl rs
theorem sseq_out {ρ : List Addr} {B H : Hp} {f g : SS} {s : Slots} {μ : Store} {D : Ends} (o : SOut w W ρ B H (sSeq f g s μ) D) : SOut w W ρ B H (f s μ) { D with nx := fun σ' H' => liftS w W g D σ' H' } := by
  unfold sSeq at o
  cases e : f s μ with
  | nx s1 μ1 =>
    rw [e] at o
    exact fun ρ' B' H' σ' l a b => ⟨ρ', B', s1, μ1, a, b, SOut.step l o⟩
  | bk s μ => rw [e] at o; exact o
  | ct s μ => rw [e] at o; exact o
  | rt d μ => rw [e] at o; exact o
  | exc c d s μ => rw [e] at o; exact o
  | bad => rw [e] at o; exact o
theorem rss_cons {st : Stmt} {rest : List Stmt} {f g : SS} (h1 : PS X st (liftS w W f)) (h2 : PSs X rest (liftS w W g)) : PSs X (st :: rest) (liftS w W (sSeq f g)) :=
  PSs_imp (pss_cons h1 h2) fun D σ H ⟨ρ, B, s, μ, rl, rs, o⟩ => ⟨ρ, B, s, μ, rl, rs, sseq_out o⟩
theorem rss_one {st : Stmt} {f : SS} (h1 : PS X st (liftS w W f)) : PSs X [st] (liftS w W f) := pss_one h1
theorem liftS_e {f : SE} {σ : L2.St} {H : Hp} {ρ : List Addr} {B : Hp} {s : Slots} {μ : Store} {k : AD → Store → SR} {D : Ends} {R' : V → Hp → Prop} (rl : Rl w ρ B μ H) (rs : RSl w ρ B σ s) (o : SOut w W ρ B H ((f s μ).st s k) D)
    (hr : ∀ x d ρ1 B1 H1 μ1, Rl w ρ1 B1 μ1 H1 → RSl w ρ1 B1 σ s → Rep w ρ1 B1 x d → SOut w W ρ1 B1 H1 (k d μ1) D → R' x H1) : lift w W f σ H R' :=
  ⟨ρ, B, s, μ, rl, rs, Out.imp (SOut.st rs o) fun x H1 ⟨ρ1, B1, d, μ1, l1, rl1, p1, o1⟩ => hr x d ρ1 B1 H1 μ1 rl1 (rs.le l1) p1 o1⟩
variable {e : Expr} {f : SE} {pos pos' : Pos} {D : Ends}
theorem rs_set {i : Nat} {x : Str} (hN : X.N.Nodup) (he : PE X e (lift w W f)) (hi : X.N[i]? = some x := by rfl) (hx : Loc X.env.scope x := by first | exact Or.inl rfl | exact Or.inr rfl) (hs : swapsWith e (some (.Name x pos')) pos.line X.env = pure false := by rfl)
    (hf : X.fn x = true ∨ X.env.scope.names.lookup x = some .local := by first | exact .inl rfl | exact .inr rfl | assumption) : PS X (.Assign [.Name x pos'] e pos) (liftS w W (sSet i f)) :=
  PS_imp (ps_set hN hi hx he hs hf) fun D σ H ⟨ρ, B, s, μ, rl, rs, o⟩ => liftS_e rl rs o fun x d ρ1 B1 H1 μ1 rl1 rs1 p1 o1 => o1 ρ1 B1 H1 _ (Le.rfl' rl1) rl1 (RSl.set p1 i rs1)
theorem rs_ret (he : PE X e (lift w W f)) : PS X (.Return (some e) pos) (liftS w W (sRet f)) :=
  PS_imp (ps_ret he) fun D σ H ⟨ρ, B, s, μ, rl, rs, o⟩ => liftS_e rl rs o fun x d ρ1 B1 H1 μ1 rl1 rs1 p1 o1 => o1 ρ1 B1 H1 x (Le.rfl' rl1) rl1 p1
theorem rs_expr (he : PE X e (lift w W f)) (hs : swapsWith e none pos.line X.env = pure false := by rfl) : PS X (.Expr e pos) (liftS w W (sDrop f)) :=
  PS_imp (ps_expr he hs) fun D σ H ⟨ρ, B, s, μ, rl, rs, o⟩ => liftS_e rl rs o fun x d ρ1 B1 H1 μ1 rl1 rs1 p1 o1 => o1 ρ1 B1 H1 σ (Le.rfl' rl1) rl1 rs1
theorem liftS_t {c : ST} {σ : L2.St} {H : Hp} {ρ : List Addr} {B : Hp} {s : Slots} {μ : Store} {k : Bool → Store → SR} {R' : Bool → Hp → Prop} (rl : Rl w ρ B μ H) (rs : RSl w ρ B σ s) (o : SOut w W ρ B H ((c s μ).stT s k) D)
    (hr : ∀ b ρ1 B1 H1 μ1, Le ρ B H ρ1 B1 H1 → Rl w ρ1 B1 μ1 H1 → RSl w ρ1 B1 σ s → SOut w W ρ1 B1 H1 (k b μ1) D → R' b H1) : liftT w W c σ H R' :=
  ⟨ρ, B, s, μ, rl, rs, Out.imp (SOut.stT rs o) fun b H1 ⟨ρ1, B1, μ1, l1, rl1, o1⟩ => hr b ρ1 B1 H1 μ1 l1 rl1 (rs.le l1) o1⟩
theorem rs_if {c : Expr} {a b : List Stmt} {tc : ST} {f1 f2 : SS} (hc : PT X c (liftT w W tc)) (h1 : PSs X a (liftS w W f1)) (h2 : PSs X b (liftS w W f2)) : PS X (.If c a b pos) (liftS w W (sIf tc f1 f2)) :=
  PS_imp (ps_if hc h1 h2) fun D σ H ⟨ρ, B, s, μ, rl, rs, o⟩ => liftS_t rl rs o fun x ρ1 B1 H1 μ1 _ rl1 rs1 o1 => by
    cases x with
    | true => exact ⟨ρ1, B1, s, μ1, rl1, rs1, o1⟩
    | false => exact ⟨ρ1, B1, s, μ1, rl1, rs1, o1⟩
/-! ### targets -/
def liftG (w : Wo) (W : WX) (g : AD → SS) : TG := fun v σ H Q => ∃ ρ B s μ d, Rl w ρ B μ H ∧ RSl w ρ B σ s ∧ Rep w ρ B v d ∧ SOut w W ρ B H (g d s μ) { nx := Q, rt := fun _ _ => False }
def gN (i : Nat) : AD → SS := fun d s μ => .nx (s.set i (some d)) μ
def gNs : List Nat → List AD → SS
  | [], [] => fun s μ => .nx s μ
  | i :: is, d :: ds => fun s μ => gNs is ds (s.set i (some d)) μ
  | _, _ => fun _ _ => .bad
/-- a, b = ..: names alone -/
def gT (is : List Nat) : AD → SS := fun d => match d with
  | .tup ds => gNs is ds
  | _ => fun _ _ => .bad
theorem rg_name {i : Nat} {x : Str} (hN : X.N.Nodup) (hi : X.N[i]? = some x := by rfl) (hx : Loc X.env.scope x := by first | exact Or.inl rfl | exact Or.inr rfl) (hf : X.fn x = true ∨ X.env.scope.names.lookup x = some .local := by first | exact .inl rfl | exact .inr rfl | assumption) : PG X (.Name x pos) (liftG w W (gN i)) :=
  ⟨fun pins s σ H v u Q I r h => (pg_name hN hi hx hf).run pins s σ H v u Q I r (by
    obtain ⟨ρ, B, s, μ, d, rl, rs, rp, o⟩ := h
    exact o ρ B H _ (Le.rfl' rl) rl (RSl.set rp i rs))⟩
/-- the values of names, one after another -/
def gNamesV : List Nat → TGs
  | [] => gNil
  | i :: is => gCons (gName i) (gNamesV is)
theorem gNs_out {ρ : List Addr} {B : Hp} {μ : Store} {H : Hp} (rl : Rl w ρ B μ H) : ∀ (is : List Nat) (ds : List AD) (vs : List V) (s : Slots) (σ : L2.St) (Q : L2.St → Hp → Prop), Reps w ρ B vs ds → RSl w ρ B σ s → SOut w W ρ B H (gNs is ds s μ) { nx := Q, rt := fun _ _ => False } → gNamesV is vs σ H Q
  | [], [], _, s, σ, Q, .nil, rs, o => ⟨rfl, o ρ B H σ (Le.rfl' rl) rl rs⟩
  | [], _ :: _, _, s, σ, Q, _, rs, o => o.elim
  | _ :: _, [], _, s, σ, Q, _, rs, o => o.elim
  | i :: is, d :: ds, _, s, σ, Q, .cons r q, rs, o => ⟨_, _, rfl, gNs_out rl is ds _ _ _ Q q (RSl.set r i rs) o⟩
theorem gNs_len : ∀ (is : List Nat) (ds : List AD) (s : Slots) (μ : Store) {ρ : List Addr} {B H : Hp} {D : Ends}, SOut w W ρ B H (gNs is ds s μ) D → ds.length = is.length
  | [], [], _, _, _, _, _, _, _ => rfl
  | [], _ :: _, _, _, _, _, _, _, o => o.elim
  | _ :: _, [], _, _, _, _, _, _, o => o.elim
  | i :: is, d :: ds, s, μ, _, _, _, _, o => congrArg (· + 1) (gNs_len is ds _ μ o)
theorem gT_out {ρ : List Addr} {B H : Hp} {s : Slots} {μ : Store} {σ : L2.St} {v : V} {d : AD} {is : List Nat} {Q : L2.St → Hp → Prop} {n : Nat} (hn : is.length = n) (hK : w.K = X.K) (rl : Rl w ρ B μ H) (rs : RSl w ρ B σ s) (rp : Rep w ρ B v d)
    (o : SOut w W ρ B H (gT is d s μ) { nx := Q, rt := fun _ _ => False }) : gTup X.K n (gNamesV is) v σ H Q := by
  cases rp with
  | tup h q =>
    rw [hK] at h
    exact ⟨_, _, rfl, ex_t rl.ex h, by rw [q.length, gNs_len (W := W) is _ s μ o, hn], gNs_out rl is _ _ _ _ Q q rs o⟩
  | _ => exact o.elim
theorem rg_tup {es : List Expr} {k : Nat} {is : List Nat} (hc : X.calm = true) (h : PGs X es (gNamesV is)) (hK : w.K = X.K := by rfl) (hn : (assignEach es X.env).length = is.length := by rfl) (hst : (assignEach es X.env).findIdx? (·.1) = none := by rfl) : PG X (.Tuple es k pos) (liftG w W (gT is)) :=
  ⟨fun pins s σ H v u Q I r h' => (pg_tup hc h hn hst).run pins s σ H v u Q I r (by
    obtain ⟨ρ, B, s, μ, d, rl, rs, rp, o⟩ := h'
    exact gT_out rfl hK rl rs rp o)⟩
def sAsg (g : AD → SS) (f : SE) : SS := fun s μ => (f s μ).st s fun d μ1 => g d s μ1
theorem SOut.nxonly {ρ : List Addr} {B H : Hp} {r : SR} {D : Ends} (hr : ∀ s μ, r ≠ .bk s μ) (hr2 : ∀ s μ, r ≠ .ct s μ) (hr3 : ∀ d μ, r ≠ .rt d μ) (o : SOut w W ρ B H r D) : SOut w W ρ B H r { nx := D.nx, rt := fun _ _ => False } := by
  cases r with
  | nx s μ => exact o
  | bk s μ => exact absurd rfl (hr s μ)
  | ct s μ => exact absurd rfl (hr2 s μ)
  | rt d μ => exact absurd rfl (hr3 d μ)
  | exc c d s μ => exact o
  | bad => exact o
/-- a target's function goes on or is bad -/
def Plain (g : AD → SS) : Prop := ∀ d s μ, (∃ s' μ', g d s μ = .nx s' μ') ∨ (∃ c x s' μ', g d s μ = .exc c x s' μ') ∨ g d s μ = .bad
theorem plain_N (i : Nat) : Plain (gN i) := fun d s μ => .inl ⟨_, _, rfl⟩
theorem plain_Ns : ∀ (is : List Nat) (ds : List AD) (s : Slots) (μ : Store), (∃ s' μ', gNs is ds s μ = .nx s' μ') ∨ gNs is ds s μ = .bad
  | [], [], s, μ => .inl ⟨_, _, rfl⟩
  | [], _ :: _, _, _ => .inr rfl
  | _ :: _, [], _, _ => .inr rfl
  | i :: is, d :: ds, s, μ => plain_Ns is ds _ μ
theorem plain_T (is : List Nat) : Plain (gT is) := fun d s μ => by
  cases d with
  | tup ds =>
    rcases plain_Ns is ds s μ with h | h
    · exact .inl h
    · exact .inr (.inr h)
  | _ => exact .inr (.inr rfl)
theorem Plain.out {g : AD → SS} (p : Plain g) {ρ : List Addr} {B H : Hp} {d : AD} {s : Slots} {μ : Store} {D : Ends} (o : SOut w W ρ B H (g d s μ) D) : SOut w W ρ B H (g d s μ) { nx := D.nx, rt := fun _ _ => False } := by
  rcases p d s μ with ⟨s', μ', e⟩ | ⟨c, x, s', μ', e⟩ | e
  · rw [e] at o ⊢; exact o
  · rw [e] at o ⊢; exact o
  · rw [e] at o; exact o.elim
theorem rs_asg {tg : Expr} {g : AD → SS} (pg : Plain g) (he : PE X e (lift w W f)) (hg : PG X tg (liftG w W g)) (hs : swapsWithSole [tg] e pos.line X.env = pure false := by rfl) (hw : swappedStores [tg] e X.env = pure none := by rfl)
    (h1 : (assignEach [tg] X.env).map (·.2) = [assign tg X.env] := by rfl) : PS X (.Assign [tg] e pos) (liftS w W (sAsg g f)) :=
  PS_imp (ps_asg he hg hs hw h1) fun D σ H ⟨ρ, B, s, μ, rl, rs, o⟩ => liftS_e rl rs o fun x d ρ1 B1 H1 μ1 rl1 rs1 p1 o1 => ⟨ρ1, B1, s, μ1, d, rl1, rs1, p1, pg.out o1⟩
/-- a, b = e1, e2 -/
def sPar (i j : Nat) (f : SA) : SS := fun s μ => match f s μ with
  | .ok [a, b] μ1 => .nx ((s.set i (some a)).set j (some b)) μ1
  | .exc c d μ1 => .exc c d s μ1
  | _ => .bad
theorem rs_par {i j : Nat} {x y : Str} {a b : Expr} {fa : SA} {px py pt : Pos} {kt k2 pt2} (hc : X.calm = true) (hN : X.N.Nodup) (hij : i ≠ j) (ha : PA X [a, b] (liftA w W fa))
    (hi : X.N[i]? = some x := by rfl) (hj : X.N[j]? = some y := by rfl) (hx : X.env.scope.names.lookup x = some .local := by rfl) (hy : X.env.scope.names.lookup y = some .local := by rfl)
    (hw : swappedStores [.Tuple [.Name x px, .Name y py] kt pt] (.Tuple [a, b] k2 pt2) X.env = pure (some [x, y]) := by rfl)
    (hs : swapsWithSole [.Tuple [.Name x px, .Name y py] kt pt] (.Tuple [a, b] k2 pt2) pos.line X.env = pure false := by rfl) : PS X (.Assign [.Tuple [.Name x px, .Name y py] kt pt] (.Tuple [a, b] k2 pt2) pos) (liftS w W (sPar i j fa)) :=
  PS_imp (ps_par hc hN hi hj hij hx hy ha hw hs) fun D σ H ⟨ρ, B, s, μ, rl, rs, o⟩ => by
    refine ⟨ρ, B, s, μ, rl, rs, ?_⟩
    unfold sPar at o
    cases e : fa s μ with
    | ok ds μ1 =>
      rw [e] at o
      match ds, o with
      | [], o => exact o.elim
      | [_], o => exact o.elim
      | _ :: _ :: _ :: _, o => exact o.elim
      | [d1, d2], o =>
        intro ρ' B' H' vs l a p
        cases p with
        | cons p1 p2 =>
          cases p2 with
          | cons p2 p3 =>
            cases p3
            exact ⟨_, _, rfl, o ρ' B' H' _ l a (RSl.set p2 j (RSl.set p1 i (rs.le l)))⟩
    | exc c d μ1 =>
      rw [e] at o
      exact fun ρ' B' H' dx v l a b r => o ρ' B' H' dx v σ l a (rs.le l) b r
    | bad => rw [e] at o; exact o.elim
/-! ### for -/
inductive Src where
  | fix (ds : List AD) | own (n : Nat)
abbrev SI := Slots → Store → R Src
def Src.at (r : Src) (μ : Store) (i : Nat) : Option (Option AD) := match r with
  | .fix ds => some ds[i]?
  | .own n => match μ[n]? with
    | some (.lst ds) => some ds[i]?
    | _ => none
def Src.le (r : Src) (i : Nat) : Prop := match r with
  | .fix ds => i ≤ ds.length
  | .own _ => True
def IterOk (w : Wo) (ρ : List Addr) (B : Hp) (J : It) (r : Src) : Prop := ∀ ρ' B' H' μ' i, Pre ρ ρ' → Ex B B' → Rl w ρ' B' μ' H' → r.le i → match r.at μ' i with
  | none => True
  | some none => J.stop i H'
  | some (some d) => J.go i H' ∧ ∀ x H'', J.yld i H' x H'' → ∃ B2, Le ρ' B' H' ρ' B2 H'' ∧ Rl w ρ' B2 μ' H'' ∧ Rep w ρ' B2 x d
def liftI (w : Wo) (W : WX) (f : SI) : TI := fun σ H Q => ∃ ρ B s μ, Rl w ρ B μ H ∧ RSl w ρ B σ s ∧ Out w (fun c d H' => W c d σ H') (fun ρ B J r => IterOk w ρ B J r) ρ B H (f s μ) Q
/-- over what stays -/
def forL (g : AD → SS) (body : SS) : List AD → SS
  | [], s, μ => .nx s μ
  | d :: ds, s, μ => match g d s μ with
    | .nx s1 μ1 => (match body s1 μ1 with
      | .nx s2 μ2 => forL g body ds s2 μ2
      | .ct s2 μ2 => forL g body ds s2 μ2
      | .bk s2 μ2 => .nx s2 μ2
      | r => r)
    | .exc c x s1 μ1 => .exc c x s1 μ1
    | _ => .bad
/-- over a list of one's own that may change -/
def forO (g : AD → SS) (body : SS) (n : Nat) : Nat → Nat → SS
  | 0, _, _, _ => .bad
  | k + 1, i, s, μ => match (Src.own n).at μ i with
    | none => .bad
    | some none => .nx s μ
    | some (some d) => match g d s μ with
      | .nx s1 μ1 => (match body s1 μ1 with
        | .nx s2 μ2 => forO g body n k (i + 1) s2 μ2
        | .ct s2 μ2 => forO g body n k (i + 1) s2 μ2
        | .bk s2 μ2 => .nx s2 μ2
        | r => r)
      | .exc c x s1 μ1 => .exc c x s1 μ1
      | _ => .bad
def fuel : Nat := 1000000000
def sFor (fi : SI) (g : AD → SS) (body : SS) : SS := fun s μ => match fi s μ with
  | .ok (.fix ds) μ1 => forL g body ds s μ1
  | .ok (.own n) μ1 => forO g body n fuel 0 s μ1
  | .exc c d μ1 => .exc c d s μ1
  | .bad => .bad
/-- one turn -/
theorem turn_out {g : AD → SS} (pg : Plain g) {body : SS} {ρ : List Addr} {B H : Hp} {d : AD} {s : Slots} {μ : Store} {k : Slots → Store → SR} {N : L2.St → Hp → Prop} {v : V} {σ : L2.St} (rl : Rl w ρ B μ H) (rs : RSl w ρ B σ s) (rp : Rep w ρ B v d)
    (o : SOut w W ρ B H (match g d s μ with
      | .nx s1 μ1 => (match body s1 μ1 with
        | .nx s2 μ2 => k s2 μ2
        | .ct s2 μ2 => k s2 μ2
        | .bk s2 μ2 => .nx s2 μ2
        | r => r)
      | .exc c x s1 μ1 => .exc c x s1 μ1
      | _ => .bad) D)
    (hN : ∀ ρ' B' H' μ' s' σ', Le ρ B H ρ' B' H' → Rl w ρ' B' μ' H' → RSl w ρ' B' σ' s' → SOut w W ρ' B' H' (k s' μ') D → N σ' H') :
    liftG w W g v σ H fun σ2 H2 => liftS w W body { D with nx := N, ct := N, bk := D.nx } σ2 H2 := by
  refine ⟨ρ, B, s, μ, d, rl, rs, rp, ?_⟩
  cases e : g d s μ with
  | nx s1 μ1 =>
    rw [e] at o
    intro ρ1 B1 H1 σ1 l1 rl1 rs1
    refine ⟨ρ1, B1, s1, μ1, rl1, rs1, ?_⟩
    have o := SOut.step l1 o
    cases e2 : body s1 μ1 with
    | nx s2 μ2 =>
      simp only [e2] at o
      exact fun ρ' B' H' σ' l a b => hN ρ' B' H' μ2 s2 σ' (l1.trans l) a b (SOut.step l o)
    | ct s2 μ2 =>
      simp only [e2] at o
      exact fun ρ' B' H' σ' l a b => hN ρ' B' H' μ2 s2 σ' (l1.trans l) a b (SOut.step l o)
    | bk s2 μ2 =>
      simp only [e2] at o
      exact fun ρ' B' H' σ' l a b => o ρ' B' H' σ' l a b
    | rt x μ2 =>
      simp only [e2] at o
      exact fun ρ' B' H' v l a b => o ρ' B' H' v l a b
    | exc c x s2 μ2 =>
      simp only [e2] at o
      exact o
    | bad => simp only [e2] at o; exact o.elim
  | exc c x s1 μ1 => rw [e] at o; exact o
  | bk s1 μ1 => rw [e] at o; exact o.elim
  | ct s1 μ1 => rw [e] at o; exact o.elim
  | rt x μ1 => rw [e] at o; exact o.elim
  | bad => rw [e] at o; exact o.elim
theorem rs_for {tg iter : Expr} {body : List Stmt} {fi : SI} {g : AD → SS} {fb : SS} (pg : Plain g) (hp : PassesOwn (model X.prog X.w) X.A X.env X.xe) (hc : X.calm = true) (hi : PI X tg iter (liftI w W fi)) (hg : PG X tg (liftG w W g)) (hb : PSs X body (liftS w W fb))
    (hs : ∀ x, foldedSetIterable iter X.env x = pure x := by intro _; rfl) : PS X (.For tg iter body [] pos) (liftS w W (sFor fi g fb)) :=
  PS_imp (ps_for hp hc hi hg hb hs) fun D σ H ⟨ρ, B, s, μ, rl, rs, o⟩ => by
    refine ⟨ρ, B, s, μ, rl, rs, ?_⟩
    unfold sFor at o
    cases e : fi s μ with
    | ok r μ1 =>
      rw [e] at o
      intro ρ1 B1 H1 J l1 rl1 ij
      cases r with
      | fix ds =>
        simp only at o
        refine ⟨fun i m σ' H' => ∃ ρ' B' s' μ', Pre ρ1 ρ' ∧ Ex B1 B' ∧ Rl w ρ' B' μ' H' ∧ RSl w ρ' B' σ' s' ∧ SOut w W ρ' B' H' (forL g fb (ds.drop i) s' μ') D ∧ m = ds.length - i ∧ i ≤ ds.length, ⟨ds.length, ρ1, B1, s, μ1, Pre.rfl' _, fun _ _ h => h, rl1, rs.le l1, by simpa using SOut.step l1 o, by simp, Nat.zero_le _⟩, ?_⟩
        rintro i m σ' H' ⟨ρ', B', s', μ', pr, ex, rl', rs', o', rfl, hi⟩
        have q := ij ρ' B' H' μ' i pr ex rl' hi
        by_cases hl : i < ds.length
        · have ei : ds[i]? = some ds[i] := List.getElem?_eq_getElem hl
          have ed : ds.drop i = ds[i] :: ds.drop (i + 1) := List.drop_eq_getElem_cons hl
          rw [ed] at o'
          simp only [Src.at, ei] at q
          refine .inr ⟨q.1, fun σ2 H2 => ∃ ρ2 B2 s2 μ2, Pre ρ1 ρ2 ∧ Ex B1 B2 ∧ Rl w ρ2 B2 μ2 H2 ∧ RSl w ρ2 B2 σ2 s2 ∧ SOut w W ρ2 B2 H2 (forL g fb (ds.drop (i + 1)) s2 μ2) D, fun σ2 H2 ⟨ρ2, B2, s2, μ2, a1, a2, a3, a4, a5⟩ => ⟨ds.length - (i + 1), by omega, ρ2, B2, s2, μ2, a1, a2, a3, a4, a5, rfl, hl⟩, fun x H2 y => ?_⟩
          obtain ⟨B2, l2, rl2, rp⟩ := q.2 x H2 y
          refine turn_out pg (k := forL g fb (ds.drop (i + 1))) rl2 (rs'.le l2) rp (SOut.step l2 o') fun ρ3 B3 H3 μ3 s3 σ3 l3 rl3 rs3 o3 => ?_
          exact ⟨ρ3, B3, s3, μ3, (pr.trans l2.pre).trans l3.pre, fun a u h => l3.ex a u (l2.ex a u (ex a u h)), rl3, rs3, o3⟩
        · have en : ds[i]? = none := List.getElem?_eq_none_iff.mpr (by omega)
          have ed : ds.drop i = [] := List.drop_eq_nil_iff.mpr (by omega)
          rw [ed] at o'
          simp only [Src.at, en] at q
          exact .inl ⟨q, o' ρ' B' H' σ' (Le.rfl' rl') rl' rs'⟩
      | own n =>
        simp only at o
        refine ⟨fun i m σ' H' => ∃ ρ' B' s' μ', Pre ρ1 ρ' ∧ Ex B1 B' ∧ Rl w ρ' B' μ' H' ∧ RSl w ρ' B' σ' s' ∧ SOut w W ρ' B' H' (forO g fb n m i s' μ') D, ⟨fuel, ρ1, B1, s, μ1, Pre.rfl' _, fun _ _ h => h, rl1, rs.le l1, SOut.step l1 o⟩, ?_⟩
        rintro i m σ' H' ⟨ρ', B', s', μ', pr, ex, rl', rs', o'⟩
        have q := ij ρ' B' H' μ' i pr ex rl' trivial
        cases m with
        | zero => exact o'.elim
        | succ k =>
          unfold forO at o'
          cases ea : (Src.own n).at μ' i with
          | none => rw [ea] at o'; exact o'.elim
          | some u =>
            rw [ea] at o' q
            cases u with
            | none => exact .inl ⟨q, o' ρ' B' H' σ' (Le.rfl' rl') rl' rs'⟩
            | some d =>
              refine .inr ⟨q.1, fun σ2 H2 => ∃ ρ2 B2 s2 μ2, Pre ρ1 ρ2 ∧ Ex B1 B2 ∧ Rl w ρ2 B2 μ2 H2 ∧ RSl w ρ2 B2 σ2 s2 ∧ SOut w W ρ2 B2 H2 (forO g fb n k (i + 1) s2 μ2) D, fun σ2 H2 ⟨ρ2, B2, s2, μ2, a1, a2, a3, a4, a5⟩ => ⟨k, by omega, ρ2, B2, s2, μ2, a1, a2, a3, a4, a5⟩, fun x H2 y => ?_⟩
              obtain ⟨B2, l2, rl2, rp⟩ := q.2 x H2 y
              refine turn_out pg (k := forO g fb n k (i + 1)) rl2 (rs'.le l2) rp (SOut.step l2 o') fun ρ3 B3 H3 μ3 s3 σ3 l3 rl3 rs3 o3 => ?_
              exact ⟨ρ3, B3, s3, μ3, (pr.trans l2.pre).trans l3.pre, fun a u h => l3.ex a u (l2.ex a u (ex a u h)), rl3, rs3, o3⟩
    | exc c d μ1 =>
      rw [e] at o
      exact fun ρ' B' H' dx v l a b r => o ρ' B' H' dx v σ l a (rs.le l) b r
    | bad => rw [e] at o; exact o.elim
/-! ### while -/
def whileF (c : ST) (body : SS) : Nat → SS
  | 0, _, _ => .bad
  | k + 1, s, μ => (c s μ).stT s fun b μ1 => if b then (match body s μ1 with
      | .nx s2 μ2 => whileF c body k s2 μ2
      | .ct s2 μ2 => whileF c body k s2 μ2
      | .bk s2 μ2 => .nx s2 μ2
      | r => r) else .nx s μ1
def sWhile (c : ST) (body : SS) : SS := whileF c body fuel
theorem rs_while {c : Expr} {body : List Stmt} {tc : ST} {fb : SS} (hp : PassesOwn (model X.prog X.w) X.A X.env X.xe) (hc : PT X c (liftT w W tc)) (hb : PSs X body (liftS w W fb)) : PS X (.While c body [] pos) (liftS w W (sWhile tc fb)) :=
  PS_imp (ps_while hp hc hb) fun D σ H ⟨ρ, B, s, μ, rl, rs, o⟩ => by
    refine ⟨fun m σ' H' => ∃ ρ' B' s' μ', Rl w ρ' B' μ' H' ∧ RSl w ρ' B' σ' s' ∧ SOut w W ρ' B' H' (whileF tc fb m s' μ') D, ⟨fuel, ρ, B, s, μ, rl, rs, o⟩, ?_⟩
    rintro m σ' H' ⟨ρ', B', s', μ', rl', rs', o'⟩
    cases m with
    | zero => exact o'.elim
    | succ k =>
      unfold whileF at o'
      refine liftS_t rl' rs' o' fun b ρ1 B1 H1 μ1 l1 rl1 rs1 o1 => ?_
      cases b with
      | false => exact o1 ρ1 B1 H1 σ' (Le.rfl' rl1) rl1 rs1
      | true =>
        refine ⟨fun σ2 H2 => ∃ ρ2 B2 s2 μ2, Rl w ρ2 B2 μ2 H2 ∧ RSl w ρ2 B2 σ2 s2 ∧ SOut w W ρ2 B2 H2 (whileF tc fb k s2 μ2) D, fun σ2 H2 q => ⟨k, Nat.lt_succ_self _, q⟩, ρ1, B1, s', μ1, rl1, rs1, ?_⟩
        simp only [if_true] at o1
        cases e2 : fb s' μ1 with
        | nx s2 μ2 =>
          rw [e2] at o1
          exact fun ρ2 B2 H2 σ2 l a b => ⟨ρ2, B2, s2, μ2, a, b, SOut.step l o1⟩
        | ct s2 μ2 =>
          rw [e2] at o1
          exact fun ρ2 B2 H2 σ2 l a b => ⟨ρ2, B2, s2, μ2, a, b, SOut.step l o1⟩
        | bk s2 μ2 => rw [e2] at o1; exact o1
        | rt x μ2 => rw [e2] at o1; exact o1
        | exc c x s2 μ2 => rw [e2] at o1; exact o1
        | bad => rw [e2] at o1; exact o1.elim
end
end SC

set_option Elab.async false
set_option linter.all false
set_option maxRecDepth 100000
set_option maxHeartbeats 2000000
namespace SC
open PySem PySem.Spec PyProof.Rows L2
/-! ### what crosses a call -/
def mapO {α β : Type} (f : α → Option β) : List α → Option (List β)
  | [] => some []
  | a :: r => match f a with
    | none => none
    | some b => match mapO f r with
      | none => none
      | some bs => some (b :: bs)
/-- no object of one's own, no raw lambda -/
def okD : Nat → AD → Bool
  | 0, _ => false
  | k + 1, d => match d with
    | .ref _ => false
    | .lamR _ => false
    | .tup ds => ds.all (okD k)
    | .lst ds => ds.all (okD k)
    | .scr ds => ds.all (okD k)
    | .lamS _ ds => ds.all (okD k)
    | .exc _ d => okD k d
    | _ => true
/-- behind a call: what was the callee's own is known from now on -/
def frzD (L : Bool) (m : Nat) (μ : Store) : Nat → AD → Option AD
  | 0, _ => none
  | k + 1, d => match d with
    | .ref n => if L && decide (m ≤ n) then (match μ[n]? with
      | some (.lst ds) => (match mapO (frzD L m μ k) ds with
        | some ds' => some (.lst ds')
        | none => none)
      | _ => none) else none
    | .lamR _ => none
    | .lamS _ _ => none
    | .tup ds => (match mapO (frzD L m μ k) ds with
      | some ds' => some (.tup ds')
      | none => none)
    | .lst ds => if L then (match mapO (frzD L m μ k) ds with
      | some ds' => some (.lst ds')
      | none => none) else none
    | .scr ds => if L then (match mapO (frzD L m μ k) ds with
      | some ds' => some (.scr ds')
      | none => none) else none
    | .exc c d => (match frzD L m μ k d with
      | some d' => some (.exc c d')
      | none => none)
    | d => some d
def Wo.at' (w : Wo) (c : Option (List (Str × Addr))) : Wo := { w with cl := c }
section
variable {w : Wo} {c : Option (List (Str × Addr))} {ρ ρ' : List Addr} {B B' H H' : Hp}
theorem mapO_some {α β : Type} {f : α → Option β} {P : α → β → Prop} (h : ∀ a b, f a = some b → P a b) : ∀ {l : List α} {m : List β}, mapO f l = some m → Paired P l m
  | [], m, e => by cases e; exact .nil
  | a :: r, m, e => by
    unfold mapO at e
    cases e1 : f a with
    | none => rw [e1] at e; cases e
    | some b =>
      rw [e1] at e
      simp only at e
      cases e2 : mapO f r with
      | none => rw [e2] at e; cases e
      | some bs =>
        rw [e2] at e
        cases e
        exact .cons (h a b e1) (mapO_some h e2)
theorem reps_map {w1 w2 : Wo} {ρ1 ρ2 : List Addr} {B1 B2 : Hp} {f : AD → AD → Prop} (h : ∀ v d d', Rep w1 ρ1 B1 v d → f d d' → Rep w2 ρ2 B2 v d') : ∀ {vs : List V} {ds ds' : List AD}, Reps w1 ρ1 B1 vs ds → Paired f ds ds' → Reps w2 ρ2 B2 vs ds'
  | _, _, _, .nil, .nil => .nil
  | _, _, _, .cons r q, .cons x y => .cons (h _ _ _ r x) (reps_map h q y)
theorem sqT_keep {K : PySem.W.Frag} {B B' : Hp} {a : Addr} {vs : List V} (h : ∀ o, B a = some o → (o = .tup vs ∨ ∃ ob, o = .frz ob (.tup vs)) → B' a = some o) (q : SqT K B a vs) : SqT K B' a vs := by
  rcases q with (q | ⟨o, q⟩) | q
  · exact .inl (.inl (h _ q (.inl rfl)))
  · exact .inl (.inr ⟨o, h _ q (.inr ⟨o, rfl⟩)⟩)
  · exact .inr q
theorem okD_in (e : Ex B B') : ∀ (k : Nat) {v : V} {d : AD}, Rep w ρ B v d → okD k d = true → Rep (w.at' c) ρ' B' v d
  | 0, _, _, _, h => absurd h (by simp [okD])
  | k + 1, v, d, r, h => by
    have go : ∀ {vs : List V} {ds : List AD}, Reps w ρ B vs ds → ds.all (okD k) = true → Reps (w.at' c) ρ' B' vs ds := fun q z => by
      induction q using Reps.rec (motive_1 := fun _ _ _ => True) with
      | nil => exact .nil
      | cons r q _ ih =>
        rw [List.all_cons, Bool.and_eq_true] at z
        exact .cons (okD_in e k r z.1) (ih z.2)
      | _ => trivial
    cases r with
    | non => exact .non
    | bl b => exact .bl b
    | int b => exact .int b
    | str b => exact .str b
    | ty b => exact .ty b
    | tup s q => exact .tup (ex_t e s) (go q h)
    | lst s q => exact .lst (e _ _ s) (go q h)
    | scr s q => exact .scr (ex_l e s) (go q h)
    | ref s => exact absurd h (by simp [okD])
    | exc h1 h2 q => exact .exc (e _ _ h1) (e _ _ h2) (okD_in e k q h)
    | lamR h0 h1 h2 => exact absurd h (by simp [okD])
    | lamS h1 h2 h3 q => exact .lamS (e _ _ h1) (e _ _ h2) (h3.mono e) (go q h)
theorem okD_ins {k : Nat} (e : Ex B B') : ∀ {vs : List V} {ds : List AD}, Reps w ρ B vs ds → ds.all (okD k) = true → Reps (w.at' c) ρ' B' vs ds
  | _, _, .nil, _ => .nil
  | _, _, .cons r q, z => by
    rw [List.all_cons, Bool.and_eq_true] at z
    exact .cons (okD_in e k r z.1) (okD_ins e q z.2)
theorem frz_out {L : Bool} {m : Nat} {μ : Store} (hB : ∀ a o, B a = some o → (∀ ob, o ≠ cellO ob) → (L = false → ∀ xs, o ≠ .lst xs) → B' a = some o) (hR : L = true → ∀ n a o, m ≤ n → ρ[n]? = some a → H a = some o → B' a = some o)
    (obj : ∀ (n : Nat) (a : Addr), ρ[n]? = .some a → ∃ o : AO, μ[n]? = .some o ∧ OkO w ρ B H a o) : ∀ (k : Nat) {v : V} {d d' : AD}, Rep w ρ B v d → frzD L m μ k d = some d' → Rep (w.at' c) ρ' B' v d'
  | 0, _, _, _, _, h => by simp [frzD] at h
  | k + 1, v, d, d', r, h => by
    have go : ∀ {vs : List V} {ds ds' : List AD}, Reps w ρ B vs ds → mapO (frzD L m μ k) ds = some ds' → Reps (w.at' c) ρ' B' vs ds' := fun q z => reps_map (f := fun d d' => frzD L m μ k d = some d') (fun v d d' r x => frz_out hB hR obj k r x) q (mapO_some (fun _ _ x => x) z)
    cases r with
    | non => cases h; exact .non
    | bl b => cases h; exact .bl b
    | int b => cases h; exact .int b
    | str b => cases h; exact .str b
    | ty b => cases h; exact .ty b
    | tup s q =>
      unfold frzD at h
      simp only at h
      split at h
      · cases h
        rename_i e
        exact .tup (sqT_keep (fun o x y => hB _ o x (fun ob z => by rcases y with y | ⟨_, y⟩ <;> rw [y] at z <;> cases z) fun _ xs z => by rcases y with y | ⟨_, y⟩ <;> rw [y] at z <;> cases z) s) (go q e)
      · cases h
    | lst s q =>
      unfold frzD at h
      simp only at h
      split at h
      · split at h
        · cases h
          rename_i hl _ _ e
          exact .lst (hB _ _ s (fun ob z => by cases z) fun z => by rw [z] at hl; cases hl) (go q e)
        · cases h
      · cases h
    | scr s q =>
      unfold frzD at h
      simp only at h
      split at h
      · split at h
        · cases h
          rename_i hl _ _ e
          refine .scr ?_ (go q e)
          rcases s with (s | ⟨o, s⟩) | s
          · exact .inl (.inl (hB _ _ s (fun ob z => by cases z) fun z => by rw [z] at hl; cases hl))
          · exact .inl (.inr ⟨o, hB _ _ s (fun ob z => by cases z) fun z => by rw [z] at hl; cases hl⟩)
          · exact .inr s
        · cases h
      · cases h
    | @ref a n s =>
      unfold frzD at h
      simp only at h
      split at h
      · rename_i hl
        rw [Bool.and_eq_true] at hl
        obtain ⟨o, e1, e2⟩ := obj n a s
        rw [e1] at h
        cases o with
        | lst ds =>
          simp only at h
          split at h
          · cases h
            rename_i e
            obtain ⟨vs, e3, e4⟩ := e2
            exact .lst (hR hl.1 n a _ (of_decide_eq_true hl.2) s e3) (go e4 e)
          · cases h
        | dct kvs => cases h
        | any => cases h
      · cases h
    | exc h1 h2 q =>
      unfold frzD at h
      simp only at h
      split at h
      · cases h
        rename_i e
        exact .exc (hB _ _ h1 (fun ob z => by cases z) fun _ xs z => by cases z) (hB _ _ h2 (fun ob z => by cases z) fun _ xs z => by cases z) (frz_out hB hR obj k q e)
      · cases h
    | lamR h0 h1 h2 => simp [frzD] at h
    | lamS h1 h2 h3 q => simp [frzD] at h
end
/-! ### the caller's world behind a call -/
def addC (cs : List (Addr × Obj)) (H : Hp) : Hp := fun b => match cs.lookup b with | some o => some (cellO o) | none => H b
def delC (cs : List (Addr × Obj)) (H : Hp) : Hp := fun b => match cs.lookup b with | some _ => none | none => H b
def isC (cs : List (Addr × Obj)) (b : Addr) : Prop := ∃ o, cs.lookup b = some o
theorem addC_c {cs : List (Addr × Obj)} {H : Hp} {b : Addr} {o : Obj} (h : cs.lookup b = some o) : addC cs H b = some (cellO o) := by unfold addC; rw [h]
theorem addC_n {cs : List (Addr × Obj)} {H : Hp} {b : Addr} (h : ¬ isC cs b) : addC cs H b = H b := by
  unfold addC
  cases e : cs.lookup b with
  | none => rfl
  | some o => exact absurd ⟨o, e⟩ h
theorem delC_c {cs : List (Addr × Obj)} {H : Hp} {b : Addr} (h : isC cs b) : delC cs H b = none := by
  obtain ⟨o, h⟩ := h
  unfold delC; rw [h]
theorem delC_n {cs : List (Addr × Obj)} {H : Hp} {b : Addr} (h : ¬ isC cs b) : delC cs H b = H b := by
  unfold delC
  cases e : cs.lookup b with
  | none => rfl
  | some o => exact absurd ⟨o, e⟩ h
open Classical in
noncomputable def backB (cs : List (Addr × Obj)) (ρ ρ' : List Addr) (B' H' : Hp) : Hp := fun b => if b ∈ ρ ∨ isC cs b then none else if b ∈ ρ' then H' b else B' b
structure Ent (cs : List (Addr × Obj)) (ρ ρ0 : List Addr) (B B0 H : Hp) (L : Bool) : Prop where
  free : ∀ a, isC cs a → H a = none
  sub : ∀ a ∈ ρ0, a ∈ ρ
  ex : Ex B B0
  fr : ∀ a, B0 a ≠ none → B a ≠ none ∨ a ∈ ρ ∨ isC cs a
  lst : ∀ a ∈ ρ, B0 a ≠ none → L = false ∧ ∃ xs, B0 a = some (.lst xs) ∧ H a = some (.lst xs)
section
variable {w : Wo} {c : Option (List (Str × Addr))} {cs : List (Addr × Obj)} {ρ ρ0 ρ' : List Addr} {B B0 B' H H' : Hp} {μ μ' : Store} {L : Bool}
theorem back_cell (E : Ent cs ρ ρ0 B B0 H L) (r : Rl (w.at' c) ρ B μ H) (l : Le ρ0 B0 (addC cs H) ρ' B' H') {a : Addr} {o : Obj} (h : cs.lookup a = some o) : a ∉ ρ ∧ a ∉ ρ' ∧ H' a = some (cellO o) := by
  have n : a ∉ ρ := fun z => r.there a z (E.free a ⟨o, h⟩)
  have n0 : a ∉ ρ0 := fun z => n (E.sub a z)
  refine ⟨n, fun z => ?_, l.keep a _ n0 (fun ps z => by cases z) (addC_c h)⟩
  rcases l.freshR a z with z | z
  · exact n0 z
  · rw [addC_c h] at z; cases z
theorem back_H (E : Ent cs ρ ρ0 B B0 H L) {a : Addr} (h : H a ≠ none) : ¬ isC cs a := fun z => h (E.free a z)
/-- what the callee knows is known -/
theorem back_B (E : Ent cs ρ ρ0 B B0 H L) (r : Rl (w.at' c) ρ B μ H) (l : Le ρ0 B0 (addC cs H) ρ' B' H') (r' : Rl w ρ' B' μ' H') : ∀ a o, B' a = some o → (∀ ob, o ≠ cellO ob) → (L = false → ∀ xs, o ≠ .lst xs) → backB cs ρ ρ' B' H' a = some o := fun a o h h1 h2 => by
  have n' : a ∉ ρ' := fun z => by rw [r'.off a z] at h; cases h
  have nc : ¬ isC cs a := fun ⟨ob, z⟩ => by
    have q := (back_cell E r l z).2.2
    rw [r'.ex a o h] at q
    exact h1 ob (Option.some.inj q)
  have nr : a ∉ ρ := fun z => by
    have hn : addC cs H a ≠ none := by rw [addC_n nc]; exact r.there a z
    have q : B0 a ≠ none := by
      rcases l.fresh a (by rw [h]; exact nofun) with q | q
      · exact q
      · exact absurd q hn
    obtain ⟨hL, xs, q1, q2⟩ := E.lst a z q
    have := l.ex a _ q1
    rw [h] at this
    exact h2 hL xs (Option.some.inj this)
  unfold backB
  rw [if_neg (fun z => z.elim nr nc), if_neg n']
  exact h
theorem back_R (E : Ent cs ρ ρ0 B B0 H L) (r : Rl (w.at' c) ρ B μ H) (l : Le ρ0 B0 (addC cs H) ρ' B' H') (r' : Rl w ρ' B' μ' H') : ∀ n a o, ρ0.length ≤ n → ρ'[n]? = some a → H' a = some o → backB cs ρ ρ' B' H' a = some o := fun n a o hn hr h => by
  have hm : a ∈ ρ' := mem_of_get hr
  have nc : ¬ isC cs a := fun ⟨ob, z⟩ => (back_cell E r l z).2.1 hm
  have n0 : a ∉ ρ0 := fun z => by
    obtain ⟨i, hi⟩ := List.mem_iff_getElem?.mp z
    have h1 := l.pre.get hi
    have h2 : i < ρ0.length := (List.getElem?_eq_some_iff.mp hi).1
    obtain ⟨l1, e1⟩ := List.getElem?_eq_some_iff.mp hr
    obtain ⟨l2, e2⟩ := List.getElem?_eq_some_iff.mp h1
    have : n = i := (List.getElem_inj r'.nd).mp (e1.trans e2.symm)
    omega
  have nr : a ∉ ρ := fun z => by
    rcases l.freshR a hm with q | q
    · exact n0 q
    · rw [addC_n nc] at q
      exact r.there a z q
  unfold backB
  rw [if_neg (fun z => z.elim nr nc), if_pos hm]
  exact h
/-- the caller's relation -/
theorem back {μ'' : Store} (E : Ent cs ρ ρ0 B B0 H L) (r : Rl (w.at' c) ρ B μ H) (l : Le ρ0 B0 (addC cs H) ρ' B' H') (r' : Rl w ρ' B' μ' H') (hlen : μ''.length = μ.length)
    (h1 : ∀ (n : Nat) (a : Addr), ρ[n]? = some a → a ∉ ρ0 → μ''[n]? = μ[n]?)
    (h2 : ∀ (n : Nat) (a : Addr), ρ[n]? = some a → a ∈ ρ0 → ∃ o, μ''[n]? = some o ∧ OkO (w.at' c) ρ (backB cs ρ ρ' B' H') (delC cs H') a o) :
    Rl (w.at' c) ρ (backB cs ρ ρ' B' H') μ'' (delC cs H') ∧ Le ρ B H ρ (backB cs ρ ρ' B' H') (delC cs H') := by
  have hsub : Ex B (backB cs ρ ρ' B' H') := fun a o h => by
    have nr : a ∉ ρ := fun z => by rw [r.off a z] at h; cases h
    have nc : ¬ isC cs a := back_H E (by rw [r.ex a o h]; exact nofun)
    have hb : B' a = some o := l.ex a o (E.ex a o h)
    have n' : a ∉ ρ' := fun z => by rw [r'.off a z] at hb; cases hb
    unfold backB
    rw [if_neg (fun z => z.elim nr nc), if_neg n']
    exact hb
  have keep : ∀ a o, a ∉ ρ0 → (∀ ps, o ≠ .tbl ps) → H a = some o → delC cs H' a = some o := fun a o n0 ht h => by
    have nc : ¬ isC cs a := back_H E (by rw [h]; exact nofun)
    rw [delC_n nc]
    exact l.keep a o n0 ht (by rw [addC_n nc]; exact h)
  have ne : ∀ a, H a ≠ none → delC cs H' a ≠ none := fun a h => by
    have nc := back_H E h
    rw [delC_n nc]
    exact l.ne a (by rw [addC_n nc]; exact h)
  refine ⟨⟨fun a o h => ?_, r.nd, fun a h => ?_, fun n a h => ?_, by rw [hlen]; exact r.len, fun p hp => ?_⟩, ⟨Pre.rfl' _, hsub, fun a o n ht h => keep a o (fun z => n (E.sub a z)) ht h, ne, fun a h => ?_, fun a h => .inl h, fun a h => ne a (r.there a h)⟩⟩
  · unfold backB at h
    split at h
    · cases h
    · rename_i z
      have nc : ¬ isC cs a := fun q => z (.inr q)
      rw [delC_n nc]
      split at h
      · exact h
      · exact r'.ex a o h
  · unfold backB
    rw [if_pos (.inl h)]
  · by_cases hm : a ∈ ρ0
    · exact h2 n a h hm
    · obtain ⟨o, e1, e2⟩ := r.obj n a h
      refine ⟨o, (h1 n a h hm).trans e1, e2.mono hsub (Pre.rfl' _) ?_⟩
      cases e : H a with
      | none => exact absurd e e2.some
      | some u => exact keep a u hm (fun ps z => e2.tbl ps (by rw [e, z])) e
  · obtain ⟨t1, t2, ps, t3, t4, t5⟩ := r'.tab p hp
    obtain ⟨u1, u2, ps0, u3, _⟩ := r.tab p hp
    have nc : ¬ isC cs p.1 := back_H E (by rw [u3]; exact nofun)
    refine ⟨u1, ?_, ps, by rw [delC_n nc]; exact t3, t4, fun pos cv hc => ?_⟩
    · unfold backB
      rw [if_neg (fun z => z.elim u1 nc), if_neg t1]
      exact t2
    · obtain ⟨cc, e1, e2⟩ := t5 pos cv hc
      refine ⟨cc, e1, ?_⟩
      have n' : cc ∉ ρ' := fun z => by rw [r'.off cc z] at e2; cases e2
      have ncc : ¬ isC cs cc := fun ⟨ob, z⟩ => by
        have q := (back_cell E r l z).2.2
        rw [r'.ex _ _ e2] at q
        unfold LamX.CodeO cellO at q
        cases q
      have nr : cc ∉ ρ := fun z => by
        obtain ⟨i, hi⟩ := List.mem_iff_getElem?.mp z
        obtain ⟨o, _, q⟩ := r.obj i cc hi
        have n0 : cc ∉ ρ0 := fun y => n' (by obtain ⟨k, rfl⟩ := l.pre; exact List.mem_append_left _ y)
        cases e : H cc with
        | none => exact q.some e
        | some u =>
          have := keep cc u n0 (fun ps y => q.tbl ps (by rw [e, y])) e
          rw [delC_n ncc, r'.ex _ _ e2] at this
          exact q.code p.2 (by rw [e, ← Option.some.inj this])
      unfold backB
      rw [if_neg (fun z => z.elim nr ncc), if_neg n']
      exact e2
  · by_cases hr : a ∈ ρ ∨ isC cs a
    · unfold backB at h
      rw [if_pos hr] at h
      exact absurd rfl h
    · have nr : a ∉ ρ := fun z => hr (.inl z)
      have nc : ¬ isC cs a := fun z => hr (.inr z)
      by_cases hm : a ∈ ρ'
      · rcases l.freshR a hm with q | q
        · exact absurd (E.sub a q) nr
        · rw [addC_n nc] at q; exact .inr q
      · unfold backB at h
        rw [if_neg hr, if_neg hm] at h
        rcases l.fresh a h with q | q
        · rcases E.fr a q with q | q | q
          · exact .inl q
          · exact absurd q nr
          · exact absurd q nc
        · rw [addC_n nc] at q; exact .inr q
end
end SC

set_option Elab.async false
set_option linter.all false
set_option maxRecDepth 100000
set_option maxHeartbeats 2000000
namespace SC
open PySem PySem.Spec PyProof.Rows L2
/-! ### room, with no repr under way; a def's promise there -/
structure RoomG (k : Nat) (A : Around) : Prop extends Room k A where
  gd : A.guards = some []
theorem RoomG.mono' {j k : Nat} {A : Around} (r : RoomG k A) (h : j ≤ k) : RoomG j A := ⟨r.toRoom.mono h, r.gd⟩
theorem RoomG.deeper' {k : Nat} {A : Around} (r : RoomG (k + 1) A) (env : Env) : RoomG k (A.deeper env) := ⟨r.toRoom.deeper env, r.gd⟩
structure FnG (P : Program) (w : World) (K : PySem.W.Frag) (mg : Str → Option Value) (base : Heap) (CX : CXT) (k : Nat) (f : Addr) (fd : FuncData) (ps : List Str) (sp : Sp) : Prop where
  len : ∀ vs H Q E, sp vs H Q E → vs.length = ps.length
  run : ∀ (A : Around) (outer : List Env) (s : Shared) (H : Hp) (args : Args) (us : List Value) (vs : List V) (Q : VK) (E : XK), RoomG k A → Env0 P w K mg base A outer s H → BindsTo s fd args (ps.zip us) → Vals vs us → sp vs H Q E →
    codeAny (model P w) A (.call (.ref f) args) (CR CX outer P w H s Q E) s
theorem FnG.mono {P : Program} {w : World} {K : PySem.W.Frag} {mg : Str → Option Value} {base : Heap} {CX : CXT} {j k : Nat} {f : Addr} {fd : FuncData} {ps : List Str} {sp : Sp} (F : FnG P w K mg base CX j f fd ps sp) (h : j ≤ k) :
    FnG P w K mg base CX k f fd ps sp := ⟨F.len, fun A outer s H args us vs Q E hr => F.run A outer s H args us vs Q E (hr.mono' h)⟩
section
variable {X : Cx} {CX : CXT} {k : Nat} {f : Addr} {fd : FuncData} {ps : List Str} {sp : Sp} {x : Str} {p pos : Pos} {e : Expr} {es : List Expr} {t : TA} {E : L2.St → XK}
theorem run_fnG {pins : List (Addr × Obj)} {σ : L2.St} {H : Hp} {s : Shared} {Q : VK} {us : List Value} {vs : List V} (F : FnG X.prog X.w X.K X.mg X.base CX k f fd ps sp) (hr : RoomG k X.A) (hb : Binds X.K fd ps []) (hx : PassesAt CX X σ (E σ))
    (I : Inv X pins σ H s) (r : Vals vs us) (h : sp vs H Q (E σ)) : wpAny (model X.prog X.w) X.A (call (.ref f) us) (EP X pins σ Q) X.xe s := by
  have hl : us.length = ps.length := by rw [← r.length]; exact F.len _ _ _ _ h
  have b := hb s us I.kIn (by rw [List.append_nil]; exact hl)
  rw [List.append_nil] at b
  refine wpAny_call (codeAny_mono (F.run X.A X.stack s H ⟨us, []⟩ us vs Q (E σ) hr I.env0 b r h) fun r s' hq => ?_)
  match r, hq with
  | .error e, hq => exact hx pins H s e s' I hq
  | .ok (.ret u), hq => exact I.after hq
  | .ok .next, hq => exact False.elim hq
  | .ok .brk, hq => exact False.elim hq
  | .ok .cont, hq => exact False.elim hq
theorem pe_callG (F : FnG X.prog X.w X.K X.mg X.base CX k f fd ps sp) (hr : RoomG k X.A) (hg : Gl X x) (hm : X.mg x = some (.ref f)) (hk : PySem.W.keepIn X.K (.ref f) = true) (hb : Binds X.K fd ps []) (hx : ∀ σ, PassesAt CX X σ (E σ))
    (ha : PA X (e :: es) t) (hdb : (x == ("__debug__" : Str)) = false) (he : starEach (e :: es) X.env = (false, eval e X.env) :: starEach es X.env) (hpl : (backTo pos (starEach es X.env)).any (·.1) = false) :
    PE X (.Call (.Name x p) (e :: es) [] pos) (tCallS sp E t) := by
  refine ⟨fun pins s σ H Q I h => ?_⟩
  refine wpAny_Call_Name_kw (ld_glob I hg hm ?_ hdb)
  refine PySem.W.callWith_K (h₀ := X.base) I.ok.mod.kin hk (thn (ha.run pos pins s σ H _ I h) fun us s1 ⟨vs, H1, I1, r, q⟩ => ⟨I1.kIn, ?_⟩) he hpl
  exact run_fnG F hr hb (hx σ) I1 r q
theorem fnG_of {P : Program} {w : World} {K : PySem.W.Frag} {mg : Str → Option Value} {base : Heap} {name qual : Str} {params : Arguments} {body : List Stmt} {scope : Scope} {dV kV doc pm cdv ct oc : Value} {an od : Option Addr}
    {osl : Array (Option Value)} {N : List Str} (lk : K.lookup f = some ⟨oc, od, .func (PySem.W.fnOf name qual params body scope dV kV doc pm an cdv ct), osl⟩) (hcd : PySem.W.codeIn K cdv qual = true) (S : FnScope N ps scope)
    (len : ∀ vs H Q E, sp vs H Q E → vs.length = ps.length)
    (hbody : ∀ (A : Around) (outer : List Env) (s : Shared) (H : Hp) (vs : List V) (Q : VK) (E : XK), RoomG k (A.deeper (envOfC qual scope s.heap.objs.size f cdv)) → sp vs H Q E →
      ∃ t, PSs (cxOf CX P w K mg base N qual scope f cdv A outer s H E) body t ∧ t { nx := fun _ H' => Q .non H', rt := Q } (L2.start N vs) H) :
    FnG P w K mg base CX (k + 1) f (PySem.W.fnOf name qual params body scope dV kV doc pm an cdv ct) ps sp := by
  refine ⟨len, fun A outer s H args us vs Q E hr e0 hb r hsp => ?_⟩
  have hl := len _ _ _ _ hsp
  have KX : K.In s.heap := e0.mod.kin.keeps fun b o e => (e0.bs b o e).1
  have lim : s.heap.NoLimit := e0.mod.nolimit.keeps fun b o e => (e0.bs b o e).1
  refine codeAny_call_function hr.depth (KX _ _ lk) rfl S.co S.gen rfl (PySem.W.codeRec_of KX hcd) (hb _ _ _ _ ?_)
  refine wpAny_newFunctionEnv_cells S.kind (fun ⟨n, v⟩ hy => (S.par n (List.of_mem_zip hy).1).imp id fun q => ⟨q, PySem.W.cellsFrom_some _ _ _ (.inl q)⟩) fun env he s1 x => ?_
  subst he
  refine ⟨lim.keeps x.toInCall.keep, codeAny_func ?_⟩
  obtain ⟨t, ht, hq⟩ := hbody A outer s H vs Q E (hr.deeper' _) hsp
  have I : Inv (cxOf CX P w K mg base N qual scope f cdv A outer s H E) [] (L2.start N vs) H s1 := inv_start S hr.hd e0 hl r x
  refine wpAny_mono (ht.run [] s1 (L2.start N vs) H _ I hq) (fun fl s' hs => ?_) fun e s' hs => hs
  match fl, hs with
  | .ret u, ⟨v, σ', H', J, rv, q⟩ => exact ⟨v, H', J.os, J.bare, J.base, J.hok, rv, q⟩
  | .next, ⟨σ', H', J, q⟩ => exact ⟨.non, H', J.os, J.bare, J.base, J.hok, rfl, q⟩
  | .brk, ⟨_, _, _, q⟩ => exact False.elim q
  | .cont, ⟨_, _, _, q⟩ => exact False.elim q
end
/-! ### a def's promise -/
def spF (w : Wo) (f : List AD → Store → R AD) (n : Nat) : Sp := fun vs H Q E => vs.length = n ∧ ∃ ρ B ds μ, Rl w ρ B μ H ∧ Reps w ρ B vs ds ∧ Out w (fun c d H' => E c d H') (PV w) ρ B H (f ds μ) Q
def fz : Nat := 400
def back0 (L : Bool) (μ : Store) (res : R AD) : R AD := match res with
  | .ok d μ' => (match frzD L 0 μ' fz d with
    | some d' => .ok d' μ
    | none => .bad)
  | .exc c d μ' => (match frzD L 0 μ' fz d with
    | some d' => .exc c d' μ
    | none => .bad)
  | .bad => .bad
def back1 (n : Nat) (μ : Store) (res : R AD) : R AD := match res with
  | .ok d (.lst os :: μr) => (match frzD true 1 (.lst os :: μr) fz d with
    | some d' => (match mapO (frzD true 1 (.lst os :: μr) fz) os with
      | some os' => .ok d' (μ.set n (.lst os'))
      | none => .bad)
    | none => .bad)
  | .exc c d (.lst os :: μr) => (match frzD true 1 (.lst os :: μr) fz d with
    | some d' => (match mapO (frzD true 1 (.lst os :: μr) fz) os with
      | some os' => .exc c d' (μ.set n (.lst os'))
      | none => .bad)
    | none => .bad)
  | _ => .bad
/-- f(..): nothing of one's own is handed over -/
def callP (n : Nat) (f : List AD → Store → R AD) (ds : List AD) (μ : Store) : R AD := if ds.length = n then (if ds.all (okD fz) then back0 true μ (f ds []) else .bad) else .bad
/-- f(x, ..): x one's own list -/
def callR (n : Nat) (f : List AD → Store → R AD) (ds : List AD) (μ : Store) : R AD := if ds.length = n then (match ds with
  | .ref i :: rest => (match μ[i]? with
    | some (.lst os) => if rest.all (okD fz) && os.all (okD fz) then back1 i μ (f (.ref 0 :: rest) [.lst os]) else .bad
    | _ => .bad)
  | _ => .bad) else .bad
section
variable {w : Wo} {c : Option (List (Str × Addr))} {cs : List (Addr × Obj)} {ρ ρ0 : List Addr} {B B0 H : Hp} {μ : Store} {L : Bool} {W : Value → Option Addr → Hp → Prop} {Q : VK}
theorem cross0 (E : Ent cs ρ [] B B0 H L) (r : Rl (w.at' c) ρ B μ H) {res : R AD} (o : Out (w.at' c) W (PV (w.at' c)) ρ B H (back0 L μ res) Q) :
    Out w (fun k d H' => W k d (delC cs H')) (PV w) [] B0 (addC cs H) res (fun v H' => Q v (delC cs H')) := by
  have main : ∀ ρ' B' H' μ', Le [] B0 (addC cs H) ρ' B' H' → Rl w ρ' B' μ' H' → Rl (w.at' c) ρ (backB cs ρ ρ' B' H') μ (delC cs H') ∧ Le ρ B H ρ (backB cs ρ ρ' B' H') (delC cs H') := fun ρ' B' H' μ' l r' =>
    back E r l r' rfl (fun _ _ _ _ => rfl) fun _ _ _ z => absurd z (by simp)
  have out : ∀ {ρ' B' H' μ' v d d'}, Le [] B0 (addC cs H) ρ' B' H' → Rl w ρ' B' μ' H' → Rep w ρ' B' v d → frzD L 0 μ' fz d = some d' → Rep (w.at' c) ρ (backB cs ρ ρ' B' H') v d' := fun {ρ' B' H' μ' v d d'} l r' p e =>
    frz_out (back_B E r l r') (fun _ n a o hn => back_R E r l r' n a o hn) r'.obj fz p e
  cases res with
  | ok d μ' =>
    intro ρ' B' H' v l r' p
    unfold back0 at o
    simp only at o
    cases e : frzD L 0 μ' fz d with
    | none => rw [e] at o; exact o.elim
    | some d' =>
      rw [e] at o
      obtain ⟨a, b⟩ := main ρ' B' H' μ' l r'
      exact o _ _ _ _ b a (out l r' p e)
  | exc k d μ' =>
    intro ρ' B' H' dx v l r' h1 p
    unfold back0 at o
    simp only at o
    cases e : frzD L 0 μ' fz d with
    | none => rw [e] at o; exact o.elim
    | some d' =>
      rw [e] at o
      obtain ⟨a, b⟩ := main ρ' B' H' μ' l r'
      exact o _ _ _ dx v b a (back_B E r l r' dx _ h1 (fun ob z => by cases z) fun _ xs z => by cases z) (out l r' p e)
  | bad => exact o
theorem entP (r : Rl (w.at' c) ρ B μ H) : Ent [] ρ [] B B H true := ⟨fun a ⟨o, z⟩ => (by cases z), fun a z => absurd z (by simp), fun _ _ h => h, fun a h => .inl h, fun a h1 h2 => absurd (r.off a h1) h2⟩
theorem entR (r : Rl (w.at' c) ρ B μ H) {i : Nat} {a : Addr} (hi : ρ[i]? = some a) : Ent [] ρ [a] B B H true := ⟨fun a ⟨o, z⟩ => (by cases z), fun b z => (by rw [List.mem_singleton] at z; subst z; exact mem_of_get hi), fun _ _ h => h, fun a h => .inl h, fun a h1 h2 => absurd (r.off a h1) h2⟩
theorem start_rl (r : Rl (w.at' c) ρ B μ H) : Rl w [] B [] H := ⟨r.ex, List.nodup_nil, fun a z => absurd z (by simp), fun n a h => by simp at h, rfl, fun p hp => ⟨by simp, (r.tab p hp).2⟩⟩
theorem at_self (w : Wo) (h : w.cl = c) : w.at' c = w := by subst h; rfl
theorem at_at {w : Wo} {c d : Option (List (Str × Addr))} : (w.at' c).at' d = w.at' d := rfl
variable {fF : List AD → Store → R AD} {vs : List V} {ds : List AD} {n : Nat} {E : XK}
theorem callP_sp (hw : w.cl = none) (r : Rl (w.at' c) ρ B μ H) (p : Reps (w.at' c) ρ B vs ds) (o : Out (w.at' c) (fun k d H' => E k d H') (PV (w.at' c)) ρ B H (callP n fF ds μ) Q) : spF w fF n vs H Q E := by
  unfold callP at o
  split at o
  · rename_i hl
    split at o
    · rename_i ha
      refine ⟨p.length.trans hl, [], B, ds, [], start_rl r, ?_, ?_⟩
      · have q := okD_ins (w := w.at' c) (c := none) (ρ' := []) (fun _ _ h => h) p ha
        rw [at_at, at_self w hw] at q
        exact q
      · exact cross0 (W := fun k d H' => E k d H') (entP r) r o
    · exact o.elim
  · exact o.elim
theorem cross1 {i : Nat} {a : Addr} (hw : w.cl = none) (r : Rl (w.at' c) ρ B μ H) (hi : ρ[i]? = some a) {res : R AD} (o : Out (w.at' c) W (PV (w.at' c)) ρ B H (back1 i μ res) Q) : Out w W (PV w) [a] B H res Q := by
  have E := entR r hi
  have main : ∀ ρ' B' H' os os' μr, Le [a] B H ρ' B' H' → Rl w ρ' B' (.lst os :: μr) H' → mapO (frzD true 1 (.lst os :: μr) fz) os = some os' → Rl (w.at' c) ρ (backB [] ρ ρ' B' H') (μ.set i (.lst os')) (delC [] H') ∧ Le ρ B H ρ (backB [] ρ ρ' B' H') (delC [] H') := fun ρ' B' H' os os' μr l r' e => by
    refine back E r l r' (by simp) (fun m b h z => ?_) fun m b h z => ?_
    · have : i ≠ m := fun q => by
        subst q
        rw [hi] at h
        exact z (by rw [Option.some.inj h]; simp)
      rw [List.getElem?_set_ne this]
    · rw [List.mem_singleton] at z
      subst z
      have : m = i := by
        obtain ⟨l1, e1⟩ := List.getElem?_eq_some_iff.mp h
        obtain ⟨l2, e2⟩ := List.getElem?_eq_some_iff.mp hi
        exact (List.getElem_inj r.nd).mp (e1.trans e2.symm)
      subst this
      have hlt : m < μ.length := by rw [← r.len]; exact (List.getElem?_eq_some_iff.mp h).1
      refine ⟨.lst os', by rw [List.getElem?_set_self hlt], ?_⟩
      have h0 : ρ'[0]? = some b := l.pre.get rfl
      obtain ⟨ob, q1, q2⟩ := r'.obj 0 b h0
      cases q1
      obtain ⟨ws, q3, q4⟩ := q2
      exact ⟨ws, q3, reps_map (f := fun d d' => frzD true 1 (.lst os :: μr) fz d = some d') (fun v d d' p x => frz_out (back_B E r l r') (fun _ n a o hn => back_R E r l r' n a o hn) r'.obj fz p x) q4 (mapO_some (fun _ _ x => x) e)⟩
  have out : ∀ {ρ' B' H' μ' v d d'}, Le [a] B H ρ' B' H' → Rl w ρ' B' μ' H' → Rep w ρ' B' v d → frzD true 1 μ' fz d = some d' → Rep (w.at' c) ρ (backB [] ρ ρ' B' H') v d' := fun {ρ' B' H' μ' v d d'} l r' p e =>
    frz_out (back_B E r l r') (fun _ n a o hn => back_R E r l r' n a o hn) r'.obj fz p e
  cases res with
  | ok d μ' =>
    intro ρ' B' H' v l r' p
    unfold back1 at o
    match μ', o, r' with
    | [], o, _ => exact o.elim
    | .dct _ :: _, o, _ => exact o.elim
    | .any :: _, o, _ => exact o.elim
    | .lst os :: μr, o, r' =>
      simp only at o
      cases e : frzD true 1 (.lst os :: μr) fz d with
      | none => rw [e] at o; exact o.elim
      | some d' =>
        rw [e] at o
        simp only at o
        cases e2 : mapO (frzD true 1 (.lst os :: μr) fz) os with
        | none => rw [e2] at o; exact o.elim
        | some os' =>
          rw [e2] at o
          obtain ⟨x, y⟩ := main ρ' B' H' os os' μr l r' e2
          exact o _ _ _ _ y x (out l r' p e)
  | exc k d μ' =>
    intro ρ' B' H' dx v l r' h1 p
    unfold back1 at o
    match μ', o, r' with
    | [], o, _ => exact o.elim
    | .dct _ :: _, o, _ => exact o.elim
    | .any :: _, o, _ => exact o.elim
    | .lst os :: μr, o, r' =>
      simp only at o
      cases e : frzD true 1 (.lst os :: μr) fz d with
      | none => rw [e] at o; exact o.elim
      | some d' =>
        rw [e] at o
        simp only at o
        cases e2 : mapO (frzD true 1 (.lst os :: μr) fz) os with
        | none => rw [e2] at o; exact o.elim
        | some os' =>
          rw [e2] at o
          obtain ⟨x, y⟩ := main ρ' B' H' os os' μr l r' e2
          exact o _ _ _ dx v y x (back_B E r l r' dx _ h1 (fun ob z => by cases z) fun _ xs z => by cases z) (out l r' p e)
  | bad => exact o
theorem callR_sp (hw : w.cl = none) (r : Rl (w.at' c) ρ B μ H) (p : Reps (w.at' c) ρ B vs ds) (o : Out (w.at' c) (fun k d H' => E k d H') (PV (w.at' c)) ρ B H (callR n fF ds μ) Q) : spF w fF n vs H Q E := by
  unfold callR at o
  split at o
  · rename_i hl
    split at o
    · rename_i i rest
      cases p with
      | cons p1 p2 =>
        cases p1 with
        | @ref a _ hi =>
          cases em : μ[i]? with
          | none => rw [em] at o; exact o.elim
          | some ob =>
            rw [em] at o
            cases ob with
            | dct _ => exact o.elim
            | any => exact o.elim
            | lst os =>
              simp only at o
              split at o
              · rename_i hok
                rw [Bool.and_eq_true] at hok
                have pr := okD_ins (w := w.at' c) (c := none) (ρ' := [a]) (fun _ _ h => h) p2 hok.1
                rw [at_at, at_self w hw] at pr
                obtain ⟨ob', e1, e2⟩ := r.obj i a hi
                rw [em] at e1
                cases e1
                obtain ⟨ws, e3, e4⟩ := e2
                have po := okD_ins (w := w.at' c) (c := none) (ρ' := [a]) (fun _ _ h => h) e4 hok.2
                rw [at_at, at_self w hw] at po
                refine ⟨(by rw [← hl]; exact congrArg (· + 1) p2.length), [a], B, .ref 0 :: rest, [.lst os], ⟨r.ex, by simp, fun b z => ?_, fun m b h => ?_, rfl, fun q hq => ⟨fun z => ?_, (r.tab q hq).2⟩⟩, .cons (.ref rfl) pr, cross1 (W := fun k d H' => E k d H') hw r hi o⟩
                · rw [List.mem_singleton] at z; subst z; exact r.off b (mem_of_get hi)
                · cases m with
                  | zero =>
                    cases h
                    exact ⟨.lst os, rfl, ws, e3, po⟩
                  | succ m => simp at h
                · rw [List.mem_singleton] at z
                  exact (r.tab q hq).1 (z ▸ mem_of_get hi)
              · exact o.elim
    · exact o.elim
  · exact o.elim
end
def eCallP (n : Nat) (f : List AD → Store → R AD) (fa : SA) : SE := fun s μ => (fa s μ).bind fun ds μ1 => callP n f ds μ1
def eCallR (n : Nat) (f : List AD → Store → R AD) (fa : SA) : SE := fun s μ => (fa s μ).bind fun ds μ1 => callR n f ds μ1
section
variable {X : Cx} {w : Wo} {c : Option (List (Str × Addr))} {W : WX} {k : Nat} {f : Addr} {fd : FuncData} {ps : List Str} {fF : List AD → Store → R AD} {x : Str} {p pos : Pos} {e : Expr} {es : List Expr} {fa : SA} {n : Nat}
theorem r_callP (hw : w.cl = none) (F : FnG X.prog X.w X.K X.mg X.base (L2.CX X.prog X.w) k f fd ps (spF w fF n)) (hr : RoomG k X.A) (hg : Gl X x) (hm : X.mg x = some (.ref f)) (hk : PySem.W.keepIn X.K (.ref f) = true) (hb : Binds X.K fd ps []) (tk : Takes X W)
    (ha : PA X (e :: es) (liftA (w.at' c) W fa)) (hdb : (x == ("__debug__" : Str)) = false := by decide) (he : starEach (e :: es) X.env = (false, eval e X.env) :: starEach es X.env := by rfl) (hpl : (backTo pos (starEach es X.env)).any (·.1) = false := by rfl) :
    PE X (.Call (.Name x p) (e :: es) [] pos) (lift (w.at' c) W (eCallP n fF fa)) :=
  PE_imp (pe_callG F hr hg hm hk hb (fun σ => passAt tk σ) ha hdb he hpl) fun σ H Q ⟨ρ, B, s, μ, rl, rs, o⟩ =>
    liftA_k rl rs o fun xs ds ρ2 B2 H2 μ2 _ rl2 rs2 p o2 => callP_sp (E := WE W σ) hw rl2 p o2
theorem r_callR (hw : w.cl = none) (F : FnG X.prog X.w X.K X.mg X.base (L2.CX X.prog X.w) k f fd ps (spF w fF n)) (hr : RoomG k X.A) (hg : Gl X x) (hm : X.mg x = some (.ref f)) (hk : PySem.W.keepIn X.K (.ref f) = true) (hb : Binds X.K fd ps []) (tk : Takes X W)
    (ha : PA X (e :: es) (liftA (w.at' c) W fa)) (hdb : (x == ("__debug__" : Str)) = false := by decide) (he : starEach (e :: es) X.env = (false, eval e X.env) :: starEach es X.env := by rfl) (hpl : (backTo pos (starEach es X.env)).any (·.1) = false := by rfl) :
    PE X (.Call (.Name x p) (e :: es) [] pos) (lift (w.at' c) W (eCallR n fF fa)) :=
  PE_imp (pe_callG F hr hg hm hk hb (fun σ => passAt tk σ) ha hdb he hpl) fun σ H Q ⟨ρ, B, s, μ, rl, rs, o⟩ =>
    liftA_k rl rs o fun xs ds ρ2 B2 H2 μ2 _ rl2 rs2 p o2 => callR_sp (E := WE W σ) hw rl2 p o2
end
/-! ### a def without lambdas -/
def startS (n : Nat) (ds : List AD) : Slots := ds.map some ++ List.replicate (n - ds.length) none
def R.ofS (r : SR) : R AD := match r with
  | .rt d μ => .ok d μ
  | .nx _ μ => .ok .non μ
  | .exc c d _ μ => .exc c d μ
  | _ => .bad
def fnF (n : Nat) (fb : SS) : List AD → Store → R AD := fun ds μ => R.ofS (fb (startS n ds) μ)
section
variable {w : Wo} {ρ : List Addr} {B H : Hp}
theorem rsl_none : ∀ (n : Nat), RSl w ρ B (List.replicate n none) (List.replicate n none)
  | 0 => .nil
  | n + 1 => .none (rsl_none n)
theorem rsl_start {n : Nat} {N : List Str} (hn : N.length = n) {vs : List V} {ds : List AD} (q : Reps w ρ B vs ds) : RSl w ρ B (L2.start N vs) (startS n ds) := by
  unfold L2.start startS
  rw [hn, q.length]
  generalize n - ds.length = m
  clear hn
  induction vs generalizing ds with
  | nil => cases q; exact rsl_none m
  | cons v vs ih =>
    cases q with
    | cons r q => exact .some r (ih q)
theorem ofS_out {E : XK} {Q : VK} {r : SR} (o : Out w (fun k d H' => E k d H') (PV w) ρ B H (R.ofS r) Q) : SOut w (fun cls d _ H' => E cls d H') ρ B H r { nx := fun _ H' => Q .non H', rt := Q } := by
  cases r with
  | rt d μ => exact o
  | nx s μ => exact fun ρ' B' H' σ' l a b => o ρ' B' H' .non l a .non
  | exc k d s μ => exact fun ρ' B' H' dx v σ' l a b => o ρ' B' H' dx v l a
  | bk s μ => exact o.elim
  | ct s μ => exact o.elim
  | bad => exact o.elim
theorem fn_sc {P : Program} {wd : World} {K : PySem.W.Frag} {mg : Str → Option Value} {base : Heap} {k : Nat} {f : Addr} {name qual : Str} {params : Arguments} {body : List Stmt} {scope : Scope} {dV kV doc pm cdv ct oc : Value} {an od : Option Addr}
    {osl : Array (Option Value)} {N ps : List Str} {n m : Nat} {fb : SS} (lk : K.lookup f = some ⟨oc, od, .func (PySem.W.fnOf name qual params body scope dV kV doc pm an cdv ct), osl⟩) (hcd : PySem.W.codeIn K cdv qual = true) (S : FnScope N ps scope) (hn : N.length = n) (hm : ps.length = m)
    (hbody : ∀ (A : Around) (outer : List Env) (s : Shared) (H : Hp) (E : XK), RoomG k (A.deeper (envOfC qual scope s.heap.objs.size f cdv)) → PSs (cxOf (L2.CX P wd) P wd K mg base N qual scope f cdv A outer s H E) body (liftS w (fun cls d _ H' => E cls d H') fb)) :
    FnG P wd K mg base (L2.CX P wd) (k + 1) f (PySem.W.fnOf name qual params body scope dV kV doc pm an cdv ct) ps (spF w (fnF n fb) m) :=
  fnG_of lk hcd S (fun vs H Q E h => h.1.trans hm.symm) fun A outer s H vs Q E hr ⟨_, ρ, B, ds, μ, r, p, o⟩ => ⟨_, hbody A outer s H E hr, ρ, B, _, μ, r, rsl_start hn p, ofS_out o⟩
end
end SC

set_option Elab.async false
set_option linter.all false
set_option maxRecDepth 100000
set_option maxHeartbeats 2000000
namespace SC
open PySem PySem.Spec PyProof.Rows L2
/-! ### texts as lists of numbers -/
def sL (x : Str) : List Nat := x.cps.toList
def lS (l : List Nat) : Str := ⟨⟨l⟩⟩
theorem sL_lS (l : List Nat) : sL (lS l) = l := rfl
theorem lS_sL (x : Str) : lS (sL x) = x := rfl
theorem sL_inj {x y : Str} (h : sL x = sL y) : x = y := by rw [← lS_sL x, ← lS_sL y, h]
theorem sL_len (x : Str) : (sL x).length = x.length := rfl
def eqL : List Nat → List Nat → Bool
  | [], [] => true
  | a :: r, b :: s => Nat.beq a b && eqL r s
  | _, _ => false
theorem eqL_iff : ∀ {l m : List Nat}, eqL l m = true ↔ l = m
  | [], [] => by simp [eqL]
  | [], _ :: _ => by simp [eqL]
  | _ :: _, [] => by simp [eqL]
  | a :: r, b :: s => by
    unfold eqL
    rw [Bool.and_eq_true, eqL_iff, Nat.beq_eq, List.cons.injEq]
theorem eqL_str (x y : Str) : (x == y) = eqL (sL x) (sL y) := by
  rw [Bool.eq_iff_iff, eqL_iff, beq_iff_eq]
  exact ⟨fun h => by rw [h], sL_inj⟩
def ltL : List Nat → List Nat → Bool
  | [], [] => false
  | [], _ :: _ => true
  | _ :: _, [] => false
  | a :: r, b :: s => Nat.blt a b || (Nat.beq a b && ltL r s)
theorem ltL_iff : ∀ {l m : List Nat}, ltL l m = true ↔ l < m
  | [], [] => by simp [ltL]
  | [], _ :: _ => by simp [ltL]
  | _ :: _, [] => by simp [ltL]
  | a :: r, b :: s => by
    unfold ltL
    rw [Bool.or_eq_true, Bool.and_eq_true, ltL_iff, Nat.beq_eq, Nat.blt_eq, List.cons_lt_cons_iff]
theorem ltL_dec (l m : List Nat) : decide (l < m) = ltL l m := by
  rw [Bool.eq_iff_iff, decide_eq_true_eq, ltL_iff]
/-! ### sequences -/
def lstD (μ : Store) : AD → Option (List AD)
  | .lst ds => some ds
  | .scr ds => some ds
  | .ref n => match μ[n]? with
    | some (.lst ds) => some ds
    | _ => none
  | _ => none
def lstM (μ : Store) : AD → Option (List AD)
  | .lst ds => some ds
  | .ref n => match μ[n]? with
    | some (.lst ds) => some ds
    | _ => none
  | _ => none
section
variable {w : Wo} {ρ : List Addr} {B H : Hp} {μ : Store} {v : V} {d : AD} {ds : List AD} {W : Value → Option Addr → Hp → Prop} {Q : VK}
theorem lstM_ok (rl : Rl w ρ B μ H) (p : Rep w ρ B v d) (h : lstM μ d = some ds) : ∃ a vs, v = .ref a ∧ H a = some (.lst vs) ∧ Reps w ρ B vs ds := by
  cases p with
  | lst e q => cases h; exact ⟨_, _, rfl, rl.ex _ _ e, q⟩
  | @ref a n hn =>
    obtain ⟨o, e1, e2⟩ := rl.obj n a hn
    unfold lstM at h
    simp only [e1] at h
    cases o with
    | lst ds' => cases h; obtain ⟨vs, h1, h2⟩ := e2; exact ⟨a, vs, rfl, h1, h2⟩
    | dct _ => cases h
    | any => cases h
  | _ => cases h
theorem lstD_ok (rl : Rl w ρ B μ H) (p : Rep w ρ B v d) (h : lstD μ d = some ds) : ∃ a vs, v = .ref a ∧ SqL w.K H a vs ∧ Reps w ρ B vs ds := by
  cases p with
  | scr e q => cases h; exact ⟨_, _, rfl, ex_l rl.ex e, q⟩
  | lst e q => cases h; exact ⟨_, _, rfl, SqL.of (rl.ex _ _ e), q⟩
  | @ref a n hn =>
    obtain ⟨a', vs, h1, h2, h3⟩ := lstM_ok rl (Rep.ref (w := w) (B := B) hn) h
    exact ⟨a', vs, h1, SqL.of h2, h3⟩
  | _ => cases h
theorem new_tup {xs : List V} {ds : List AD} {a : Addr} (rl : Rl w ρ B μ H) (p : Reps w ρ B xs ds) (ha : H a = none) (o : Out w W (PV w) ρ B H (.ok (.tup ds) μ) Q) : Q (.ref a) (upd H a (.tup xs)) := by
  obtain ⟨k1, k2⟩ := rl.known (o := .tup xs) ha
  exact o _ _ _ _ k2 k1 (.tup (SqT.of upd_same) (p.mono k2.ex k2.pre))
theorem out_now {d : AD} (rl : Rl w ρ B μ H) (p : Rep w ρ B v d) (o : Out w W (PV w) ρ B H (.ok d μ) Q) : Q v H := o ρ B H v (Le.rfl' rl) rl p
/-! ### arithmetic -/
def rAdd (K : PySem.W.Frag) : R2 := fun x y H Q => rI0 (fun i j => .int (i + j)) x y H Q ∨ (∃ i j, x = .str i ∧ y = .str j ∧ i.length + j.length ≤ sizeLine ∧ Q (.str (i ++ j)) H) ∨ rCatA K x y H Q ∨ rCat x y H Q
def aAdd : AD → AD → Store → R AD := fun x y μ => match x, y with
  | .int i, .int j => .ok (.int (i + j)) μ
  | .str a, .str b => chk (decide ((sL a).length + (sL b).length ≤ sizeLine)) (.ok (.str (lS (sL a ++ sL b))) μ)
  | .tup xs, .tup ys => chk (decide (xs.length + ys.length ≤ sizeLine)) (.ok (.tup (xs ++ ys)) μ)
  | x, y => match lstM μ x, lstM μ y with
    | some xs, some ys => chk (decide (xs.length + ys.length ≤ sizeLine)) (.ok (.ref μ.length) (μ ++ [.lst (xs ++ ys)]))
    | _, _ => .bad
theorem str_cat (a b : Str) : a ++ b = lS (sL a ++ sL b) := by
  apply sL_inj
  rw [sL_lS]
  show (a.cps ++ b.cps).toList = _
  rw [Array.toList_append]
  rfl
theorem s_add : OpS w (rAdd w.K) aAdd := by
  intro W x y dx dy ρ B H μ Q rl px py o
  have lists : ∀ {xs ys}, lstM μ dx = some xs → lstM μ dy = some ys → Out w W (PV w) ρ B H (chk (decide (xs.length + ys.length ≤ sizeLine)) (.ok (.ref μ.length) (μ ++ [.lst (xs ++ ys)]))) Q → rAdd w.K x y H Q := fun {xs ys} e1 e2 o => by
    obtain ⟨a, vs, rfl, h1, h2⟩ := lstM_ok rl px e1
    obtain ⟨b, us, rfl, h3, h4⟩ := lstM_ok rl py e2
    obtain ⟨hc, o⟩ := chk_out o
    exact .inr (.inr (.inr ⟨a, b, vs, us, rfl, rfl, h1, h3, by rw [h2.length, h4.length]; exact of_decide_eq_true hc, fun p hp => own_lst rl (h2.append h4) hp o⟩))
  have gen : ∀ {o' : R AD}, o' = (match lstM μ dx, lstM μ dy with | some xs, some ys => chk (decide (xs.length + ys.length ≤ sizeLine)) (.ok (.ref μ.length) (μ ++ [.lst (xs ++ ys)])) | _, _ => .bad) → Out w W (PV w) ρ B H o' Q → rAdd w.K x y H Q := fun {o'} eo o => by
    subst eo
    cases e1 : lstM μ dx with
    | none => rw [e1] at o; exact o.elim
    | some xs =>
      cases e2 : lstM μ dy with
      | none => rw [e1, e2] at o; exact o.elim
      | some ys => rw [e1, e2] at o; exact lists e1 e2 o
  cases dx with
  | int i =>
    cases dy with
    | int j => cases px; cases py; exact .inl ⟨i, j, rfl, rfl, out_now rl (.int _) o⟩
    | _ => exact o.elim
  | str a =>
    cases dy with
    | str b =>
      cases px; cases py
      obtain ⟨hc, o⟩ := chk_out o
      refine .inr (.inl ⟨a, b, rfl, rfl, of_decide_eq_true hc, ?_⟩)
      rw [str_cat]
      exact out_now rl (.str _) o
    | _ => exact o.elim
  | tup xs =>
    cases dy with
    | tup ys =>
      cases px with
      | tup s1 q1 =>
        cases py with
        | tup s2 q2 =>
          obtain ⟨hc, o⟩ := chk_out o
          have hl := of_decide_eq_true hc
          rw [← q1.length, ← q2.length] at hl
          refine .inr (.inr (.inl ⟨_, _, _, _, rfl, rfl, ex_t rl.ex s1, ex_t rl.ex s2, hl, fun e => ?_, fun _ e => ?_, fun _ _ p hp => new_tup rl (q1.append q2) hp o⟩))
          · subst e; cases q1; exact out_now rl (.tup s2 q2) o
          · subst e; cases q2; rw [List.append_nil] at o; exact out_now rl (.tup s1 q1) o
    | _ => exact o.elim
  | lst _ => exact gen (by cases dy <;> rfl) o
  | ref _ => exact gen (by cases dy <;> rfl) o
  | _ => exact o.elim
def aSub : AD → AD → Store → R AD := fun x y μ => match x, y with
  | .int i, .int j => .ok (.int (i - j)) μ
  | _, _ => .bad
theorem s_sub : OpS w (rI0 fun i j => .int (i - j)) aSub := by
  intro W x y dx dy ρ B H μ Q rl px py o
  cases dx with
  | int i =>
    cases dy with
    | int j => cases px; cases py; exact ⟨i, j, rfl, rfl, out_now rl (.int _) o⟩
    | _ => exact o.elim
  | _ => exact o.elim
def aMod : AD → AD → Store → R AD := fun x y μ => match x, y with
  | .int i, .int j => chk (decide (0 < j)) (.ok (.int (i % j)) μ)
  | _, _ => .bad
theorem s_mod : OpS w (rI (fun _ j => 0 < j) fun i j => .int (i % j)) aMod := by
  intro W x y dx dy ρ B H μ Q rl px py o
  cases dx with
  | int i =>
    cases dy with
    | int j => cases px; cases py; obtain ⟨hc, o⟩ := chk_out o; exact ⟨i, j, rfl, rfl, of_decide_eq_true hc, out_now rl (.int _) o⟩
    | _ => exact o.elim
  | _ => exact o.elim
def aFdv : AD → AD → Store → R AD := fun x y μ => match x, y with
  | .int i, .int j => chk (decide (0 < j) && decide (j.natAbs < 2 ^ 2000)) (.ok (.int (i / j)) μ)
  | _, _ => .bad
theorem s_fdv : OpS w (rI CDivW fun i j => .int (i / j)) aFdv := by
  intro W x y dx dy ρ B H μ Q rl px py o
  cases dx with
  | int i =>
    cases dy with
    | int j =>
      cases px; cases py
      obtain ⟨hc, o⟩ := chk_out o
      rw [Bool.and_eq_true] at hc
      have h1 : 0 < j := of_decide_eq_true hc.1
      have h2 : j.natAbs < 2 ^ 2000 := of_decide_eq_true hc.2
      have h3 : j.natAbs.log2 < 2000 := (Nat.log2_lt (by omega)).mpr h2
      exact ⟨i, j, rfl, rfl, ⟨h1, by omega⟩, out_now rl (.int _) o⟩
    | _ => exact o.elim
  | _ => exact o.elim
end
end SC

set_option Elab.async false
set_option linter.all false
set_option maxRecDepth 100000
set_option maxHeartbeats 2000000
set_option exponentiation.threshold 5000
namespace SC
open PySem PySem.Spec PyProof.Rows L2
section
variable {w : Wo} {X : Cx}
/-! ### operators of a context -/
theorem o_add : OpR X (binaryOp .Add) (rAdd X.K) := op_add.or (op_add_str.or (op_catA.or op_cat))
theorem o_sub : OpR X (binaryOp .Sub) (rI0 fun i j => .int (i - j)) := op_sub
theorem o_mod : OpR X (binaryOp .Mod) (rI (fun _ j => 0 < j) fun i j => .int (i % j)) := op_mod
theorem o_fdv : OpR X (binaryOp .FloorDiv) (rI CDivW fun i j => .int (i / j)) := op_fdivW
/-! times -/
def repL {α : Type} (xs : List α) : Nat → List α
  | 0 => []
  | n + 1 => xs ++ repL xs n
theorem repL_eq {α : Type} (xs : List α) : ∀ n, (List.replicate n xs).flatten = repL xs n
  | 0 => rfl
  | n + 1 => by rw [List.replicate_succ, List.flatten_cons, repL_eq xs n]; rfl
theorem fold_app (m : Nat) (x : Array Nat) (a : Array Nat) : ((List.replicate m x).foldl (· ++ ·) a).toList = a.toList ++ repL x.toList m := by
  induction m generalizing a with
  | zero => simp [repL]
  | succ m ih => rw [List.replicate_succ, List.foldl_cons, ih, Array.toList_append, List.append_assoc]; rfl
theorem sb_mul {prog : Program} {wd : World} {A : Around} {E : Value → Shared → Prop} {s : Shared} {x : Str} {t u : Tok} {Q : Value → Shared → Prop} {n : Int} (h0 : 0 ≤ n) (h1 : x.length ≤ 100000) (h2 : n ≤ 1000) (hz : x.length * n.toNat ≤ 1000000)
    (h : ∀ t' k, Q (.str (lS (repL (sL x) n.toNat)) t') { s with toks := k }) : wpAny (model prog wd) A (binaryOp .Mult (.str x t) (.int n u)) Q E s := by
  have e : Txt.mul x n = lS (repL (sL x) n.toNat) := by
    unfold Txt.mul
    by_cases hn : n < 1
    · have : n = 0 := by omega
      subst this
      rfl
    · rw [if_neg hn]
      apply sL_inj
      by_cases hq : (n == 1 || x.length == 0) = true
      · rw [if_pos hq, sL_lS]
        rw [Bool.or_eq_true, beq_iff_eq, beq_iff_eq] at hq
        rcases hq with hq | hq
        · subst hq
          show sL x = sL x ++ []
          rw [List.append_nil]
        · have z : sL x = [] := List.eq_nil_of_length_eq_zero hq
          rw [z]
          generalize n.toNat = m
          induction m with
          | zero => rfl
          | succ m ih => exact ih
      · rw [if_neg hq, sL_lS]
        show ((List.replicate n.toNat x.cps).foldl (· ++ ·) #[]).toList = _
        rw [fold_app]
        rfl
  refine SB.mul ⟨by rw [Bool.or_eq_false_iff]; exact ⟨decide_eq_false (by omega), decide_eq_false (by omega)⟩, fun hn _ hc => ?_, fun hn _ => ?_⟩ (fun t' k => by rw [e]; exact h t' k)
  · have h3 : (2 ^ 63 - 1 : Int) / 1000 ≤ (2 ^ 63 - 1) / n := by
      apply Int.le_ediv_of_mul_le (by omega)
      calc (2 ^ 63 - 1 : Int) / 1000 * n ≤ (2 ^ 63 - 1) / 1000 * 1000 := Int.mul_le_mul_of_nonneg_left h2 (by decide)
        _ ≤ 2 ^ 63 - 1 := by decide
    have h4 : (2 ^ 63 - 1 : Int) / 1000 = 9223372036854775 := by decide
    omega
  · unfold Builtin.Str.tooLong
    apply decide_eq_false
    rw [sizeLine_eq]
    omega
def rMulS : R2 := fun x y H Q => ∃ z n, x = .str z ∧ y = .int n ∧ 0 ≤ n ∧ z.length ≤ 100000 ∧ n ≤ 1000 ∧ z.length * n.toNat ≤ 1000000 ∧ Q (.str (lS (repL (sL z) n.toNat))) H
theorem op_mulS : OpR X (binaryOp .Mult) rMulS := by
  intro pins s σ H x y v u Q I rx ry h
  obtain ⟨z, n, rfl, rfl, h0, h1, h2, h3, q⟩ := h
  obtain ⟨t, rfl⟩ := rx
  obtain ⟨t', rfl⟩ := ry
  exact sb_mul h0 h1 h2 h3 fun tk k => ⟨.str _, H, I.tok _, ⟨_, rfl⟩, q⟩
def rMul (K : PySem.W.Frag) : R2 := fun x y H Q => rI CMulW (fun i j => .int (i * j)) x y H Q ∨ rMulS x y H Q ∨ rRepT K x y H Q ∨ rRep x y H Q
theorem o_mul : OpR X (binaryOp .Mult) (rMul X.K) := op_mulW.or (op_mulS.or (op_repT.or op_rep))
def aMul : AD → AD → Store → R AD := fun x y μ => match x, y with
  | .int i, .int j => chk (decide (i.natAbs < 2 ^ 4000) && decide (j.natAbs < 2 ^ 4000)) (.ok (.int (i * j)) μ)
  | .str z, .int n => chk (decide (0 ≤ n) && decide ((sL z).length ≤ 100000) && decide (n ≤ 1000) && decide ((sL z).length * n.toNat ≤ 1000000)) (.ok (.str (lS (repL (sL z) n.toNat))) μ)
  | .tup xs, .int n => chk (decide (2 ≤ n) && decide (n ≤ 1000) && decide (0 < xs.length) && decide (xs.length ≤ 1000)) (.ok (.tup (repL xs n.toNat)) μ)
  | _, _ => .bad
theorem Reps.rep {w : Wo} {ρ : List Addr} {B : Hp} {vs : List V} {ds : List AD} (q : Reps w ρ B vs ds) : ∀ n, Reps w ρ B (repL vs n) (repL ds n)
  | 0 => .nil
  | n + 1 => q.append (Reps.rep q n)
theorem natlog {a k : Nat} (h : a < 2 ^ k) (hk : 0 < k) : a.log2 < k := by
  by_cases z : a = 0
  · subst z; rw [Nat.log2_zero]; exact hk
  · exact (Nat.log2_lt z).mpr h
theorem s_mul : OpS w (rMul w.K) aMul := by
  intro W x y dx dy ρ B H μ Q rl px py o
  cases dx with
  | int i =>
    cases dy with
    | int j =>
      cases px; cases py
      obtain ⟨hc, o⟩ := chk_out o
      rw [Bool.and_eq_true] at hc
      have h1 := natlog (of_decide_eq_true hc.1) (by decide)
      have h2 := natlog (of_decide_eq_true hc.2) (by decide)
      exact .inl ⟨i, j, rfl, rfl, (by show _ + _ < 1000000; omega), out_now rl (.int _) o⟩
    | _ => exact o.elim
  | str z =>
    cases dy with
    | int n =>
      cases px; cases py
      obtain ⟨hc, o⟩ := chk_out o
      simp only [Bool.and_eq_true, decide_eq_true_eq] at hc
      obtain ⟨⟨⟨h0, h1⟩, h2⟩, h3⟩ := hc
      exact .inr (.inl ⟨z, n, rfl, rfl, h0, h1, h2, h3, out_now rl (.str _) o⟩)
    | _ => exact o.elim
  | tup xs =>
    cases dy with
    | int n =>
      cases px with
      | tup s1 q1 =>
        cases py
        obtain ⟨hc, o⟩ := chk_out o
        simp only [Bool.and_eq_true, decide_eq_true_eq] at hc
        obtain ⟨⟨⟨h0, h1⟩, h2⟩, h3⟩ := hc
        rw [← q1.length] at h2 h3
        refine .inr (.inr (.inl ⟨_, n, _, rfl, rfl, ex_t rl.ex s1, fun e => by subst e; exact absurd h2 (by decide), h0, h1, h3, fun p hp => ?_⟩))
        rw [repL_eq]
        exact new_tup rl (q1.rep _) hp o
    | _ => exact o.elim
  | _ => exact o.elim
/-! to the power -/
def CPowW (i j : Int) : Prop := 0 ≤ j ∧ (Builtin.Int.intBits i : Int) * j ≤ 2 ^ 27
theorem o_pow : OpR X (binaryOp .Pow) (rI CPowW fun i j => .int (i ^ j.toNat)) := opI fun _ _ _ _ _ _ _ hc q => pow_int hc.1 hc.2 q
def aPow : AD → AD → Store → R AD := fun x y μ => match x, y with
  | .int i, .int j => chk (decide (0 ≤ j) && decide (j ≤ 1000) && decide (i.natAbs < 2 ^ 1000)) (.ok (.int (i ^ j.toNat)) μ)
  | _, _ => .bad
theorem s_pow : OpS w (rI CPowW fun i j => .int (i ^ j.toNat)) aPow := by
  intro W x y dx dy ρ B H μ Q rl px py o
  cases dx with
  | int i =>
    cases dy with
    | int j =>
      cases px; cases py
      obtain ⟨hc, o⟩ := chk_out o
      simp only [Bool.and_eq_true, decide_eq_true_eq] at hc
      obtain ⟨⟨h0, h1⟩, h2⟩ := hc
      refine ⟨i, j, rfl, rfl, ⟨h0, ?_⟩, out_now rl (.int _) o⟩
      have h3 := natlog h2 (by decide)
      have h4 : Builtin.Int.intBits i ≤ 1000 := by
        unfold Builtin.Int.intBits
        split <;> omega
      have h5 : (Builtin.Int.intBits i : Int) * j ≤ 1000 * 1000 := Int.mul_le_mul (by omega) h1 h0 (by decide)
      omega
    | _ => exact o.elim
  | _ => exact o.elim
/-! ### comparing -/
theorem o_lt : OpR X (compareOp .Lt) (fun x y H Q => rI0 (fun i j => .bl (decide (i < j))) x y H Q ∨ ∃ i j, x = .str i ∧ y = .str j ∧ Q (.bl (decide (i.cps.toList < j.cps.toList))) H) := op_lt.or op_lt_str
theorem o_le : OpR X (compareOp .LtE) (rI0 fun i j => .bl (decide (i ≤ j))) := op_le
theorem o_gt : OpR X (compareOp .Gt) (rI0 fun i j => .bl (decide (j < i))) := op_gt
theorem o_ge : OpR X (compareOp .GtE) (rI0 fun i j => .bl (decide (j ≤ i))) := op_ge
def aLt : AD → AD → Store → R AD := fun x y μ => match x, y with
  | .int i, .int j => .ok (.bl (decide (i < j))) μ
  | .str a, .str b => .ok (.bl (ltL (sL a) (sL b))) μ
  | _, _ => .bad
theorem s_lt : OpS w (fun x y H Q => rI0 (fun i j => .bl (decide (i < j))) x y H Q ∨ ∃ i j, x = .str i ∧ y = .str j ∧ Q (.bl (decide (i.cps.toList < j.cps.toList))) H) aLt := by
  intro W x y dx dy ρ B H μ Q rl px py o
  cases dx with
  | int i =>
    cases dy with
    | int j => cases px; cases py; exact .inl ⟨i, j, rfl, rfl, out_now rl (.bl _) o⟩
    | _ => exact o.elim
  | str a =>
    cases dy with
    | str b =>
      cases px; cases py
      refine .inr ⟨a, b, rfl, rfl, ?_⟩
      rw [ltL_dec]
      exact out_now rl (.bl _) o
    | _ => exact o.elim
  | _ => exact o.elim
def aII (f : Int → Int → Bool) : AD → AD → Store → R AD := fun x y μ => match x, y with
  | .int i, .int j => .ok (.bl (f i j)) μ
  | _, _ => .bad
theorem s_II {f : Int → Int → Bool} : OpS w (rI0 fun i j => .bl (f i j)) (aII f) := by
  intro W x y dx dy ρ B H μ Q rl px py o
  cases dx with
  | int i =>
    cases dy with
    | int j => cases px; cases py; exact ⟨i, j, rfl, rfl, out_now rl (.bl _) o⟩
    | _ => exact o.elim
  | _ => exact o.elim
abbrev aLe : AD → AD → Store → R AD := aII fun i j => decide (i ≤ j)
abbrev aGt : AD → AD → Store → R AD := aII fun i j => decide (j < i)
abbrev aGe : AD → AD → Store → R AD := aII fun i j => decide (j ≤ i)
theorem s_le : OpS w (rI0 fun i j => .bl (decide (i ≤ j))) aLe := s_II
theorem s_gt : OpS w (rI0 fun i j => .bl (decide (j < i))) aGt := s_II
theorem s_ge : OpS w (rI0 fun i j => .bl (decide (j ≤ i))) aGe := s_II
/-! ### equal -/
def allN (f : Nat → Bool) : List Nat → Bool
  | [] => true
  | a :: r => f a && allN f r
def okA (μ : Store) : Nat → AD → Bool
  | 0, _ => false
  | k + 1, d => match d with
    | .non => true
    | .bl _ => true
    | .int _ => true
    | .str x => allN (fun c => Nat.blt c 1114112) (sL x)
    | .tup ds => ds.all (okA μ k)
    | .lst ds => ds.all (okA μ k)
    | .ref n => match μ[n]? with
      | some (.lst ds) => ds.all (okA μ k)
      | _ => false
    | _ => false
def eqAs (f : AD → AD → Bool) : List AD → List AD → Bool
  | [], [] => true
  | a :: r, b :: s => f a b && eqAs f r s
  | _, _ => false
def b2 (b : Bool) : Int := if b then 1 else 0
def eqA (μ : Store) : Nat → AD → AD → Bool
  | 0, _, _ => false
  | k + 1, x, y => match x, y with
    | .non, .non => true
    | .bl a, .bl b => a == b
    | .bl a, .int j => b2 a == j
    | .int i, .bl b => i == b2 b
    | .int i, .int j => i == j
    | .str x, .str y => eqL (sL x) (sL y)
    | .tup xs, .tup ys => eqAs (eqA μ k) xs ys
    | x, y => match lstM μ x, lstM μ y with
      | some xs, some ys => eqAs (eqA μ k) xs ys
      | _, _ => false
end
end SC

set_option Elab.async false
set_option linter.all false
set_option maxRecDepth 100000
set_option maxHeartbeats 2000000
set_option exponentiation.threshold 5000
namespace SC
open PySem PySem.Spec PyProof.Rows L2
section
variable {w : Wo} {X : Cx}
/-! ### equal, of data -/
def toPD (μ : Store) : Nat → AD → PyData
  | 0, _ => .none
  | k + 1, d => match d with
    | .bl b => .bool b
    | .int i => .int i
    | .str x => .str x
    | .tup ds => .tuple (ds.map (toPD μ k))
    | .lst ds => .list (ds.map (toPD μ k))
    | .ref n => match μ[n]? with
      | some (.lst ds) => .list (ds.map (toPD μ k))
      | _ => .none
    | _ => .none
theorem allN_all {f : Nat → Bool} : ∀ {l : List Nat}, allN f l = l.all f
  | [] => rfl
  | a :: r => by unfold allN; rw [List.all_cons, allN_all]
theorem strOk_of {x : Str} (h : allN (fun c => Nat.blt c 1114112) (sL x) = true) : PyData.strOk x = true := by
  rw [allN_all, List.all_eq_true] at h
  unfold PyData.strOk
  rw [Array.all_eq_true']
  intro c hc
  have := h c (by unfold sL; exact Array.mem_def.mp hc)
  simpa using this
theorem canAll {l : List PyData} (h : ∀ d ∈ l, PyData.canLay0 d = true) : PyData.canLayAll0 l = true := by
  induction l with
  | nil => simp [PyData.canLayAll0]
  | cons a r ih =>
    simp only [PyData.canLayAll0, Bool.and_eq_true]
    exact ⟨h a (by simp), ih fun d hd => h d (by simp [hd])⟩
theorem depthAll_le {l : List PyData} {n : Nat} (h : ∀ d ∈ l, PyData.depth d ≤ n) : PyData.depthAll l ≤ n := by
  induction l with
  | nil => simp [PyData.depthAll]
  | cons a r ih =>
    simp only [PyData.depthAll]
    exact Nat.max_le.mpr ⟨h a (by simp), ih fun d hd => h d (by simp [hd])⟩
theorem okA_can {μ : Store} : ∀ (k : Nat) (d : AD), okA μ k d = true → (toPD μ k d).canLay0 = true ∧ (toPD μ k d).depth ≤ k
  | 0, _, h => absurd h (by simp [okA])
  | k + 1, d, h => by
    have go : ∀ ds : List AD, ds.all (okA μ k) = true → PyData.canLayAll0 (ds.map (toPD μ k)) = true ∧ PyData.depthAll (ds.map (toPD μ k)) ≤ k := fun ds q => by
      rw [List.all_eq_true] at q
      refine ⟨canAll fun e he => ?_, depthAll_le fun e he => ?_⟩
      · obtain ⟨a, ha, rfl⟩ := List.mem_map.mp he
        exact (okA_can k a (q a ha)).1
      · obtain ⟨a, ha, rfl⟩ := List.mem_map.mp he
        exact (okA_can k a (q a ha)).2
    cases d with
    | non => simp [toPD, PyData.canLay0, PyData.depth]
    | bl b => simp [toPD, PyData.canLay0, PyData.depth]
    | int i => simp [toPD, PyData.canLay0, PyData.depth]
    | str x => exact ⟨by simp only [toPD, PyData.canLay0]; exact strOk_of h, by simp [toPD, PyData.depth]⟩
    | tup ds => obtain ⟨a, b⟩ := go ds h; exact ⟨by simp only [toPD, PyData.canLay0]; exact a, by simp only [toPD, PyData.depth]; omega⟩
    | lst ds => obtain ⟨a, b⟩ := go ds h; exact ⟨by simp only [toPD, PyData.canLay0]; exact a, by simp only [toPD, PyData.depth]; omega⟩
    | ref n =>
      simp only [okA] at h
      simp only [toPD]
      cases e : μ[n]? with
      | none => rw [e] at h; exact absurd h (by simp)
      | some o =>
        rw [e] at h
        cases o with
        | lst ds => obtain ⟨a, b⟩ := go ds h; exact ⟨by simp only [PyData.canLay0]; exact a, by simp only [PyData.depth]; omega⟩
        | dct _ => exact absurd h (by simp)
        | any => exact absurd h (by simp)
    | _ => exact absurd h (by simp [okA])
theorem okA_dp {μ : Store} {ρ : List Addr} {B H : Hp} (rl : Rl w ρ B μ H) : ∀ (k : Nat) (v : V) (d : AD), Rep w ρ B v d → okA μ k d = true → Dp w.K H v (toPD μ k d)
  | 0, _, _, _, h => absurd h (by simp [okA])
  | k + 1, v, d, p, h => by
    have go : ∀ {vs : List V} {ds : List AD}, Reps w ρ B vs ds → ds.all (okA μ k) = true → DpAll w.K H vs (ds.map (toPD μ k)) := fun {vs ds} q z => by
      induction ds generalizing vs with
      | nil => cases q; exact .nil
      | cons a r ih =>
        cases q with
        | cons r1 q1 =>
          rw [List.all_cons, Bool.and_eq_true] at z
          exact .cons (okA_dp rl k _ _ r1 z.1) (ih q1 z.2)
    cases p with
    | non => simp only [toPD]; exact .non
    | bl b => simp only [toPD]; exact .bl b
    | int b => simp only [toPD]; exact .int b
    | str b => simp only [toPD]; exact .str b
    | tup s q => simp only [toPD]; exact .tup (ex_t rl.ex s) (go q h)
    | lst s q => simp only [toPD]; exact .lst (SqL.of (rl.ex _ _ s)) (go q h)
    | @ref a n hn =>
      simp only [okA] at h
      obtain ⟨o, e1, e2⟩ := rl.obj n a hn
      rw [e1] at h
      simp only [toPD, e1]
      cases o with
      | lst ds => obtain ⟨vs, h1, h2⟩ := e2; exact .lst (SqL.of h1) (go h2 h)
      | dct _ => exact absurd h (by simp)
      | any => exact absurd h (by simp)
    | _ => exact absurd h (by simp [okA])
theorem eqA_pd {μ : Store} : ∀ (k : Nat) (x y : AD), okA μ k x = true → okA μ k y = true → PyData.eqv (toPD μ k x) (toPD μ k y) = eqA μ k x y
  | 0, _, _, h, _ => absurd h (by simp [okA])
  | k + 1, x, y, hx, hy => by
    have go : ∀ (xs ys : List AD), xs.all (okA μ k) = true → ys.all (okA μ k) = true → PyData.eqvAll (xs.map (toPD μ k)) (ys.map (toPD μ k)) = eqAs (eqA μ k) xs ys := fun xs => by
      induction xs with
      | nil => intro ys _ _; cases ys <;> simp [PyData.eqvAll, eqAs]
      | cons a r ih =>
        intro ys h1 h2
        cases ys with
        | nil => simp [PyData.eqvAll, eqAs]
        | cons b s =>
          rw [List.all_cons, Bool.and_eq_true] at h1 h2
          simp only [List.map_cons, PyData.eqvAll, eqAs]
          rw [eqA_pd k a b h1.1 h2.1, ih s h1.2 h2.2]
    have lsx : ∀ {d : AD}, okA μ (k + 1) d = true → (∃ ds, lstM μ d = some ds ∧ ds.all (okA μ k) = true ∧ toPD μ (k + 1) d = .list (ds.map (toPD μ k))) ∨ (lstM μ d = none ∧ (d = .non ∨ (∃ b, d = .bl b) ∨ (∃ i, d = .int i) ∨ (∃ s, d = .str s) ∨ ∃ ds, d = .tup ds ∧ ds.all (okA μ k) = true)) := fun {d} h => by
      cases d with
      | lst ds => exact .inl ⟨ds, rfl, h, rfl⟩
      | ref n =>
        simp only [okA] at h
        cases e : μ[n]? with
        | none => rw [e] at h; exact absurd h (by simp)
        | some o =>
          rw [e] at h
          cases o with
          | lst ds => exact .inl ⟨ds, by simp only [lstM, e], h, by simp only [toPD, e]⟩
          | dct _ => exact absurd h (by simp)
          | any => exact absurd h (by simp)
      | non => exact .inr ⟨rfl, .inl rfl⟩
      | bl b => exact .inr ⟨rfl, .inr (.inl ⟨b, rfl⟩)⟩
      | int b => exact .inr ⟨rfl, .inr (.inr (.inl ⟨b, rfl⟩))⟩
      | str b => exact .inr ⟨rfl, .inr (.inr (.inr (.inl ⟨b, rfl⟩)))⟩
      | tup b => exact .inr ⟨rfl, .inr (.inr (.inr (.inr ⟨b, rfl, h⟩)))⟩
      | _ => exact absurd h (by simp [okA])
    rcases lsx hx with ⟨xs, e1, o1, p1⟩ | ⟨e1, z1⟩
    · rcases lsx hy with ⟨ys, e2, o2, p2⟩ | ⟨e2, z2⟩
      · rw [p1, p2]
        simp only [PyData.eqv]
        rw [go xs ys o1 o2]
        cases x with
        | lst _ => cases y <;> simp_all [eqA]
        | ref _ => cases y <;> simp_all [eqA]
        | _ => cases e1
      · rw [p1]
        rcases z2 with rfl | ⟨b, rfl⟩ | ⟨b, rfl⟩ | ⟨b, rfl⟩ | ⟨b, rfl, ob⟩ <;> (cases x <;> first | (cases e1; done) | simp_all [eqA, toPD, PyData.eqv])
    · rcases lsx hy with ⟨ys, e2, o2, p2⟩ | ⟨e2, z2⟩
      · rw [p2]
        rcases z1 with rfl | ⟨b, rfl⟩ | ⟨b, rfl⟩ | ⟨b, rfl⟩ | ⟨b, rfl, ob⟩ <;> (cases y <;> first | (cases e2; done) | simp_all [eqA, toPD, PyData.eqv])
      · rcases z1 with rfl | ⟨a, rfl⟩ | ⟨a, rfl⟩ | ⟨a, rfl⟩ | ⟨a, rfl, oa⟩ <;> rcases z2 with rfl | ⟨b, rfl⟩ | ⟨b, rfl⟩ | ⟨b, rfl⟩ | ⟨b, rfl, ob⟩ <;> first
          | (simp only [toPD, PyData.eqv, eqA]; exact go a b oa ob)
          | (simp only [toPD, PyData.eqv, eqA]; exact eqL_str a b)
          | (simp only [toPD, PyData.eqv, eqA, b2]; done)
          | (simp only [toPD, PyData.eqv, eqA, b2, lstM]; done)
          | (simp [toPD, PyData.eqv, eqA, b2, lstM]; done)
def aEq : AD → AD → Store → R AD := fun x y μ => chk (okA μ 60 x && okA μ 60 y) (.ok (.bl (eqA μ 60 x y)) μ)
def aNe : AD → AD → Store → R AD := fun x y μ => chk (okA μ 60 x && okA μ 60 y) (.ok (.bl (!eqA μ 60 x y)) μ)
theorem s_eq : OpS w (rEqD w.K) aEq := by
  intro W x y dx dy ρ B H μ Q rl px py o
  obtain ⟨hc, o⟩ := chk_out o
  rw [Bool.and_eq_true] at hc
  obtain ⟨c1, d1⟩ := okA_can 60 dx hc.1
  obtain ⟨c2, d2⟩ := okA_can 60 dy hc.2
  refine ⟨_, _, okA_dp rl 60 x dx px hc.1, okA_dp rl 60 y dy py hc.2, ?_, ?_, ?_⟩
  · unfold SeqAt.shaped; rw [Bool.and_eq_true]; exact ⟨c1, decide_eq_true (by omega)⟩
  · unfold SeqAt.shaped; rw [Bool.and_eq_true]; exact ⟨c2, decide_eq_true (by omega)⟩
  · rw [eqA_pd 60 dx dy hc.1 hc.2]; exact out_now rl (.bl _) o
theorem s_ne : OpS w (rNeD w.K) aNe := by
  intro W x y dx dy ρ B H μ Q rl px py o
  obtain ⟨hc, o⟩ := chk_out o
  rw [Bool.and_eq_true] at hc
  obtain ⟨c1, d1⟩ := okA_can 60 dx hc.1
  obtain ⟨c2, d2⟩ := okA_can 60 dy hc.2
  refine ⟨_, _, okA_dp rl 60 x dx px hc.1, okA_dp rl 60 y dy py hc.2, ?_, ?_, ?_⟩
  · unfold SeqAt.shaped; rw [Bool.and_eq_true]; exact ⟨c1, decide_eq_true (by omega)⟩
  · unfold SeqAt.shaped; rw [Bool.and_eq_true]; exact ⟨c2, decide_eq_true (by omega)⟩
  · rw [eqA_pd 60 dx dy hc.1 hc.2]; exact out_now rl (.bl _) o
theorem o_eq (hu : X.A.units + 64 < cLine) : OpR X (compareOp .Eq) (rEqD X.K) := op_eqD hu
theorem o_ne (hu : X.A.units + 64 < cLine) : OpR X (compareOp .NotEq) (rNeD X.K) := op_neD hu
/-! ### is None -/
def isNon : AD → Bool
  | .non => true
  | _ => false
theorem isNon_rep {ρ : List Addr} {B : Hp} {v : V} {d : AD} (p : Rep w ρ B v d) : decide (v = .non) = isNon d := by
  cases p <;> simp [isNon]
def aIsN : AD → AD → Store → R AD := fun x y μ => match y with
  | .non => .ok (.bl (isNon x)) μ
  | _ => .bad
def aIsNotN : AD → AD → Store → R AD := fun x y μ => match y with
  | .non => .ok (.bl (!isNon x)) μ
  | _ => .bad
theorem s_isN : OpS w (fun x y H Q => y = .non ∧ Q (.bl (decide (x = .non))) H) aIsN := by
  intro W x y dx dy ρ B H μ Q rl px py o
  cases dy with
  | non => cases py; refine ⟨rfl, ?_⟩; rw [isNon_rep px]; exact out_now rl (.bl _) o
  | _ => exact o.elim
theorem s_isNotN : OpS w (fun x y H Q => y = .non ∧ Q (.bl (!decide (x = .non))) H) aIsNotN := by
  intro W x y dx dy ρ B H μ Q rl px py o
  cases dy with
  | non => cases py; refine ⟨rfl, ?_⟩; rw [isNon_rep px]; exact out_now rl (.bl _) o
  | _ => exact o.elim
/-! ### in -/
def flA : AD → Bool
  | .non => true
  | .bl _ => true
  | .int _ => true
  | .str _ => true
  | _ => false
def eqF : AD → AD → Bool := eqA [] 1
def anyA (f : AD → Bool) : List AD → Bool
  | [] => false
  | a :: r => f a || anyA f r
def tupD : AD → Option (List AD)
  | .tup ds => some ds
  | _ => none
theorem flV_rep {ρ : List Addr} {B : Hp} {v : V} {d : AD} (p : Rep w ρ B v d) : flatV v = flA d := by
  cases p <;> rfl
theorem eqV_rep {ρ : List Addr} {B : Hp} {v u : V} {d e : AD} (p : Rep w ρ B v d) (q : Rep w ρ B u e) (h1 : flA d = true) (h2 : flA e = true) : eqV v u = eqF d e := by
  cases p <;> first | (cases h1; done) | skip
  all_goals (cases q <;> first | (cases h2; done) | skip)
  all_goals first | rfl | (exact eqL_str _ _) | simp [eqV, eqF, eqA, b2, lstM]
theorem inV_rep {ρ : List Addr} {B : Hp} {v : V} {d : AD} (p : Rep w ρ B v d) (h : flA d = true) : ∀ {vs : List V} {ds : List AD}, Reps w ρ B vs ds → ds.all flA = true → vs.all flatV = true ∧ inV v vs = anyA (fun e => eqF e d) ds
  | _, _, .nil, _ => ⟨rfl, rfl⟩
  | _, _, .cons r q, z => by
    rw [List.all_cons, Bool.and_eq_true] at z
    obtain ⟨a, b⟩ := inV_rep p h q z.2
    refine ⟨by rw [List.all_cons, flV_rep r, z.1, a]; rfl, ?_⟩
    unfold inV at b ⊢
    rw [List.any_cons, b, eqV_rep r p z.1 h]
    rfl
def rInA (K : PySem.W.Frag) (neg : Bool) : R2 := fun x y H Q => rIn K neg x y H Q ∨ ∃ (c : Nat) (z : Str), x = .str ⟨#[c]⟩ ∧ y = .str z ∧ Q (.bl (if neg then !decide (c ∈ z.cps.toList) else decide (c ∈ z.cps.toList))) H
theorem o_in : OpR X (compareOp .In) (rInA X.K false) := op_in_seq.or op_in_sign
theorem o_notin : OpR X (compareOp .NotIn) (rInA X.K true) := op_notIn_seq.or op_notIn_sign
def memN (c : Nat) : List Nat → Bool
  | [] => false
  | a :: r => Nat.beq c a || memN c r
theorem memN_iff (c : Nat) : ∀ l, decide (c ∈ l) = memN c l
  | [] => by simp [memN]
  | a :: r => by
    unfold memN
    rw [← memN_iff c r]
    rw [Bool.eq_iff_iff]
    simp
def seqD (μ : Store) (d : AD) : Option (List AD) := match d with
  | .tup ds => some ds
  | d => lstD μ d
theorem seqD_ok {ρ : List Addr} {B H : Hp} {μ : Store} {v : V} {d : AD} {ds : List AD} (rl : Rl w ρ B μ H) (p : Rep w ρ B v d) (h : seqD μ d = some ds) : ∃ a vs, v = .ref a ∧ (SqL w.K H a vs ∨ SqT w.K H a vs) ∧ Reps w ρ B vs ds := by
  cases d with
  | tup es =>
    cases h
    cases p with
    | tup s q => exact ⟨_, _, rfl, .inr (ex_t rl.ex s), q⟩
  | _ =>
    obtain ⟨a, vs, h1, h2, h3⟩ := lstD_ok rl p h
    exact ⟨a, vs, h1, .inl h2, h3⟩
def aInG (neg : Bool) : AD → AD → Store → R AD := fun x y μ => match x, y with
  | .str a, .str z => match sL a with
    | [c] => .ok (.bl (if neg then !memN c (sL z) else memN c (sL z))) μ
    | _ => .bad
  | x, y => match seqD μ y with
    | some ds => chk (flA x && ds.all flA) (.ok (.bl (if neg then !anyA (fun e => eqF e x) ds else anyA (fun e => eqF e x) ds)) μ)
    | none => .bad
theorem s_inG {neg : Bool} : OpS w (rInA w.K neg) (aInG neg) := by
  intro W x y dx dy ρ B H μ Q rl px py o
  have gen : (match seqD μ dy with
    | some ds => chk (flA dx && ds.all flA) (.ok (.bl (if neg then !anyA (fun e => eqF e dx) ds else anyA (fun e => eqF e dx) ds)) μ)
    | none => .bad) = aInG neg dx dy μ → rInA w.K neg x y H Q := fun e => by
    rw [← e] at o
    cases es : seqD μ dy with
    | none => rw [es] at o; exact o.elim
    | some ds =>
      rw [es] at o
      obtain ⟨hc, o⟩ := chk_out o
      rw [Bool.and_eq_true] at hc
      obtain ⟨a, vs, rfl, h2, h3⟩ := seqD_ok rl py es
      obtain ⟨f1, f2⟩ := inV_rep px hc.1 h3 hc.2
      refine .inl ⟨a, vs, rfl, h2, by rw [flV_rep px]; exact hc.1, f1, ?_⟩
      rw [f2]
      exact out_now rl (.bl _) o
  cases dx with
  | str a =>
    cases dy with
    | str z =>
      cases px; cases py
      unfold aInG at o
      simp only at o
      cases ea : sL a with
      | nil => rw [ea] at o; exact o.elim
      | cons c r =>
        cases r with
        | nil =>
          rw [ea] at o
          refine .inr ⟨c, z, congrArg V.str (sL_inj ea), rfl, ?_⟩
          rw [memN_iff]
          exact out_now rl (.bl _) o
        | cons _ _ => rw [ea] at o; exact o.elim
    | _ => exact gen rfl
  | _ => exact gen rfl
end
end SC

set_option Elab.async false
set_option linter.all false
set_option maxRecDepth 100000
set_option maxHeartbeats 2000000
set_option exponentiation.threshold 5000
namespace SC
open PySem PySem.Spec PyProof.Rows L2
section
variable {w : Wo} {X : Cx} {W : WX}
/-! ### a[b] -/
def rIxA (K : PySem.W.Frag) : R2 := fun x y H Q => rIxL K x y H Q ∨ rIxT K x y H Q ∨ rIxS x y H Q
theorem x_ix : IxR X (rIxA X.K) := ix_seq
def aIx : AD → AD → Store → R AD := fun x y μ => match y with
  | .int i => (match x with
    | .str z => (match atI (sL z) i with
      | some c => chk (decide ((sL z).length ≤ sizeLine)) (.ok (.str (lS [c])) μ)
      | none => .bad)
    | .tup ds => (match atI ds i with
      | some d => .ok d μ
      | none => .bad)
    | x => (match lstD μ x with
      | some ds => (match atI ds i with
        | some d => .ok d μ
        | none => .bad)
      | none => .bad))
  | _ => .bad
theorem atI_reps {ρ : List Addr} {B : Hp} {vs : List V} {ds : List AD} (q : Reps w ρ B vs ds) {i : Int} {d : AD} (h : atI ds i = some d) : ∃ v, atI vs i = some v ∧ Rep w ρ B v d := by
  unfold atI at h ⊢
  rw [q.length]
  cases e : ixN ds.length i with
  | none => rw [e] at h; cases h
  | some j =>
    rw [e] at h
    obtain ⟨v, h1, h2⟩ := q.get (i := j) h
    exact ⟨v, h1, h2⟩
theorem s_ix : OpS w (rIxA w.K) aIx := by
  intro W x y dx dy ρ B H μ Q rl px py o
  cases dy with
  | int i =>
    cases py
    have gen : ∀ ds, lstD μ dx = some ds → aIx dx (.int i) μ = (match atI ds i with | some d => .ok d μ | none => .bad) → rIxA w.K x (.int i) H Q := fun ds h1 h2 => by
      rw [h2] at o
      obtain ⟨a, vs, rfl, q1, q2⟩ := lstD_ok rl px h1
      cases e : atI ds i with
      | none => rw [e] at o; exact o.elim
      | some d =>
        rw [e] at o
        obtain ⟨v, k1, k2⟩ := atI_reps q2 e
        exact .inl ⟨a, vs, i, v, rfl, rfl, q1, k1, out_now rl k2 o⟩
    have gen2 : (∀ z, dx ≠ .str z) → (∀ ds, dx ≠ .tup ds) → rIxA w.K x (.int i) H Q := fun n1 n2 => by
      have e2 : aIx dx (.int i) μ = (match lstD μ dx with | some ds => (match atI ds i with | some d => .ok d μ | none => .bad) | none => .bad) := by
        cases dx with
        | str z => exact absurd rfl (n1 z)
        | tup z => exact absurd rfl (n2 z)
        | _ => rfl
      cases e : lstD μ dx with
      | none => rw [e2, e] at o; exact o.elim
      | some ds => exact gen ds e (by rw [e2, e])
    cases dx with
    | str z =>
      cases px
      unfold aIx at o
      simp only at o
      cases e : atI (sL z) i with
      | none => rw [e] at o; exact o.elim
      | some c =>
        rw [e] at o
        obtain ⟨hc, o⟩ := chk_out o
        exact .inr (.inr ⟨z, i, c, rfl, rfl, of_decide_eq_true hc, e, out_now rl (.str _) o⟩)
    | tup ds =>
      cases px with
      | tup s q =>
        unfold aIx at o
        simp only at o
        cases e : atI ds i with
        | none => rw [e] at o; exact o.elim
        | some d =>
          rw [e] at o
          obtain ⟨v, k1, k2⟩ := atI_reps q e
          exact .inr (.inl ⟨_, _, i, v, rfl, rfl, ex_t rl.ex s, k1, out_now rl k2 o⟩)
    | _ => exact gen2 (fun _ z => by cases z) (fun _ z => by cases z)
  | _ => exact o.elim
/-! ### a[lo:hi] -/
def liftO (w : Wo) (W : WX) (f : Slots → Store → R (Option Int)) : TO := fun σ H Q => ∃ ρ B s μ, Rl w ρ B μ H ∧ RSl w ρ B σ s ∧ Out w (fun c d H' => W c d σ H') (fun _ _ a b => a = b) ρ B H (f s μ) Q
def oNo : Slots → Store → R (Option Int) := fun _ μ => .ok none μ
def oSo (f : SE) : Slots → Store → R (Option Int) := fun s μ => (f s μ).bind fun x μ1 => match x with | .int i => .ok (some i) μ1 | _ => .bad
theorem PO_imp {e : Option Expr} {t t' : TO} (h : PO X e t) (i : ∀ σ H Q, t' σ H Q → t σ H Q) : PO X e t' := ⟨fun pins s σ H Q I q => h.run pins s σ H Q I (i σ H Q q)⟩
theorem ro_no : PO X none (liftO w W oNo) := PO_imp po_none fun σ H Q ⟨ρ, B, s, μ, rl, rs, o⟩ => o ρ B H none (Le.rfl' rl) rl rfl
theorem ro_so {e : Expr} {f : SE} (h : PE X e (lift w W f)) : PO X (some e) (liftO w W (oSo f)) := PO_imp (po_some h) fun σ H Q ⟨ρ, B, s, μ, rl, rs, o⟩ =>
  lift_one rl rs o fun x dx ρ2 B2 H2 μ2 _ rl2 rs2 p o2 => by
    cases p with
    | int i => exact ⟨i, rfl, o2 _ _ _ _ (Le.rfl' rl2) rl2 rfl⟩
    | _ => exact o2.elim
def cutA {α : Type} (xs : List α) (lo hi : Option Int) : List α := (xs.drop (HT.sIx xs.length 0 lo)).take (HT.sIx xs.length xs.length hi - HT.sIx xs.length 0 lo)
def rSlB (K : PySem.W.Frag) : V → Option Int → Option Int → Hp → VK → Prop := fun x lo hi H Q => rSlL K x lo hi H Q ∨ rSlA K x lo hi H Q ∨ rSlS x lo hi H Q
theorem x_sl : SlR X (rSlB X.K) := sl_list.or (sl_tupA.or sl_str)
def aSl : AD → Option Int → Option Int → Store → R AD := fun x lo hi μ => match x with
  | .str z => chk (decide ((sL z).length ≤ sizeLine)) (.ok (.str (lS (cutA (sL z) lo hi))) μ)
  | .tup ds => .ok (.tup (cutA ds lo hi)) μ
  | x => match lstD μ x with
    | some ds => .ok (.ref μ.length) (μ ++ [.lst (cutA ds lo hi)])
    | none => .bad
theorem Reps.cut {ρ : List Addr} {B : Hp} {vs : List V} {ds : List AD} (q : Reps w ρ B vs ds) (lo hi : Option Int) : Reps w ρ B (cutV vs lo hi) (cutA ds lo hi) := by
  unfold cutV cutA
  rw [q.length]
  exact (q.drop _).take _
theorem s_sl {ρ : List Addr} {B H : Hp} {μ : Store} {x : V} {dx : AD} {lo hi : Option Int} {Wf : Value → Option Addr → Hp → Prop} {Q : VK} (rl : Rl w ρ B μ H) (px : Rep w ρ B x dx) (o : Out w Wf (PV w) ρ B H (aSl dx lo hi μ) Q) : rSlB w.K x lo hi H Q := by
  have gen : (∀ z, dx ≠ .str z) → (∀ ds, dx ≠ .tup ds) → rSlB w.K x lo hi H Q := fun n1 n2 => by
    have e2 : aSl dx lo hi μ = (match lstD μ dx with | some ds => .ok (.ref μ.length) (μ ++ [.lst (cutA ds lo hi)]) | none => .bad) := by
      cases dx with
      | str z => exact absurd rfl (n1 z)
      | tup z => exact absurd rfl (n2 z)
      | _ => rfl
    cases e : lstD μ dx with
    | none => rw [e2, e] at o; exact o.elim
    | some ds =>
      rw [e2, e] at o
      obtain ⟨a, vs, rfl, q1, q2⟩ := lstD_ok rl px e
      exact .inl ⟨a, vs, rfl, q1, fun p hp => own_lst rl (q2.cut lo hi) hp o⟩
  cases dx with
  | str z =>
    cases px
    obtain ⟨hc, o⟩ := chk_out o
    exact .inr (.inr ⟨z, rfl, of_decide_eq_true hc, out_now rl (.str _) o⟩)
  | tup ds =>
    cases px with
    | tup s q =>
      refine .inr (.inl ⟨_, _, rfl, ex_t rl.ex s, fun ⟨h1, h2⟩ => ?_, fun _ p hp => new_tup rl (q.cut lo hi) hp o⟩)
      have e : cutA ds lo hi = ds := by
        unfold cutA
        rw [q.length] at h1 h2
        rw [h1, h2, List.drop_zero, Nat.sub_zero, List.take_length]
      unfold aSl at o
      simp only [e] at o
      exact out_now rl (.tup s q) o
  | _ => exact gen (fun _ z => by cases z) (fun _ z => by cases z)
def eSl (fe : SE) (fl fh : Slots → Store → R (Option Int)) : SE := fun s μ => (fe s μ).bind fun x μ1 => (fl s μ1).bind fun lo μ2 => (fh s μ2).bind fun hi μ3 => aSl x lo hi μ3
theorem r_sl {e : Expr} {lo hi : Option Expr} {fe : SE} {fl fh : Slots → Store → R (Option Int)} {pos p2 : Pos} (he : PE X e (lift w W fe)) (hl : PO X lo (liftO w W fl)) (hh : PO X hi (liftO w W fh)) (hK : w.K = X.K := by rfl) : PE X (.Subscript e (.Slice lo hi none p2) pos) (lift w W (eSl fe fl fh)) :=
  PE_imp (pe_slice x_sl he hl hh) fun σ H Q ⟨ρ, B, s, μ, rl, rs, o⟩ => by
    refine lift_one rl rs o fun x dx ρ2 B2 H2 μ2 _ rl2 rs2 p o2 => ?_
    refine ⟨ρ2, B2, s, μ2, rl2, rs2, Out.imp (Out.bind (P := fun _ _ a b => a = b) o2) fun lo' H3 ⟨ρ3, B3, l', μ3, l3, rl3, e3, _, o3⟩ => ?_⟩
    have e3 : lo' = l' := e3
    subst e3
    refine ⟨ρ3, B3, s, μ3, rl3, rs2.le l3, Out.imp (Out.bind (P := fun _ _ a b => a = b) o3) fun hi' H4 ⟨ρ4, B4, h', μ4, l4, rl4, e4, _, o4⟩ => ?_⟩
    have e4 : hi' = h' := e4
    subst e4
    rw [← hK]
    exact s_sl rl4 ((p.mono l3.ex l3.pre).mono l4.ex l4.pre) o4
/-! ### a op b op c -/
def eChain (g g' : AD → AD → Store → R AD) (fa fb fc : SE) : SE := fun s μ => (fa s μ).bind fun x μ1 => (fb s μ1).bind fun y μ2 => (g x y μ2).bind fun z μ3 => match z with
  | .bl true => (fc s μ3).bind fun u μ4 => g' y u μ4
  | .bl false => .ok (.bl false) μ3
  | _ => .bad
theorem lift_chain {r r' : R2} {g g' : AD → AD → Store → R AD} (hg : OpS w r g) (hg' : OpS w r' g') {fa fb fc : SE} {σ : L2.St} {H : Hp} {Q : VK} (h : lift w W (eChain g g' fa fb fc) σ H Q) : tChain r r' (lift w W fa) (lift w W fb) (lift w W fc) σ H Q := by
  obtain ⟨ρ, B, s, μ, rl, rs, o⟩ := h
  refine lift_two (k := fun x y μ2 => (g x y μ2).bind fun z μ3 => match z with
    | .bl true => (fc s μ3).bind fun u μ4 => g' y u μ4
    | .bl false => .ok (.bl false) μ3
    | _ => .bad) (R' := fun x y H2 => r x y H2 fun z H3 => ∃ k, z = .bl k ∧ (if k = true then (lift w W fc) σ H3 fun w' H4 => r' y w' H4 Q else Q (.bl false) H3)) rl rs o fun x y dx dy ρ2 B2 H2 μ2 rl2 rs2 p1 p2 o2 => ?_
  refine hg _ x y dx dy ρ2 B2 H2 μ2 _ rl2 p1 p2 (Out.imp (Out.bind (P := PV w) o2) fun z H3 ⟨ρ3, B3, d, μ3, l3, rl3, p3, _, o3⟩ => ?_)
  cases p3 with
  | bl b =>
    refine ⟨b, rfl, ?_⟩
    cases b with
    | false => exact out_now rl3 (.bl false) o3
    | true =>
      rw [if_pos rfl]
      exact lift_one rl3 (rs2.le l3) o3 fun u du ρ4 B4 H4 μ4 l4 rl4 _ p4 o4 => hg' _ y u dy du ρ4 B4 H4 μ4 Q rl4 ((p2.mono l3.ex l3.pre).mono l4.ex l4.pre) p4 o4
  | _ => exact o3.elim
theorem r_chain {op op' : CmpOp} {r r' : R2} {g g' : AD → AD → Store → R AD} {a b c : Expr} {fa fb fc : SE} {pos : Pos} (ho : OpR X (compareOp op) r) (hg : OpS w r g) (ho' : OpR X (compareOp op') r') (hg' : OpS w r' g') (ha : PE X a (lift w W fa)) (hb : PE X b (lift w W fb)) (hc : PE X c (lift w W fc))
    (hm : lastMarks [op, op'] [b, c] = false := by with_unfolding_all rfl) : PE X (.Compare a [op, op'] [b, c] pos) (lift w W (eChain g g' fa fb fc)) :=
  PE_imp (pe_chain ho ho' ha hb hc hm) fun _ _ _ => lift_chain hg hg'
theorem rt_chain {op op' : CmpOp} {r r' : R2} {g g' : AD → AD → Store → R AD} {a b c : Expr} {fa fb fc : SE} {pos : Pos} (ho : OpR X (compareOp op) r) (hg : OpS w r g) (ho' : OpR X (compareOp op') r') (hg' : OpS w r' g') (ha : PE X a (lift w W fa)) (hb : PE X b (lift w W fb)) (hc : PE X c (lift w W fc))
    (hm : lastMarks [op, op'] [b, c] = false := by with_unfolding_all rfl) : PT X (.Compare a [op, op'] [b, c] pos) (liftT w W (tV (eChain g g' fa fb fc))) :=
  PT_imp (pt_chain ho ho' ha hb hc hm) fun σ H Q hq => by
    obtain ⟨ρ, B, s, μ, rl, rs, o⟩ := hq
    have o' : Out w (fun c d H' => W c d σ H') PB ρ B H (((eChain g g' fa fb fc) s μ).bind fun x μ1 => match x with | .bl b => .ok b μ1 | _ => .bad) Q := o
    exact lift_chain (Q := fun x H' => ∃ k, x = .bl k ∧ Q k H') hg hg' (lift_one rl rs o' fun x dx ρ2 B2 H2 μ2 _ rl2 rs2 p o2 => by
      cases p with
      | bl b => exact ⟨b, rfl, o2 _ _ _ b (Le.rfl' rl2) rl2 rfl⟩
      | _ => exact o2.elim)
/-! ### calls of builtins -/
theorem r_ty {T : String} {x : Str} {pos : Pos} (hg : Gl X x) (hm : X.mg x = none) (hv : bootBuiltins x = some (.type T)) (hn : x ≠ "__name__" := by decide) (hd : (x == ("__debug__" : Str)) = false := by decide) : PE X (.Name x pos) (lift w W (eC (.ty T))) :=
  PE_imp (pe_bltn hg hm hv (v := .ty T) rfl hn hd) fun _ _ _ => lift_c fun _ _ => .ty T
theorem r_callB {id : String} {x : Str} {p pos : Pos} {e : Expr} {es : List Expr} {r : List V → Hp → VK → Prop} {g : List AD → Store → R AD} {fa : SA} (hc : CallR X (.builtin id) r) (hs : CallS w r g) (hg : Gl X x) (hm : X.mg x = none) (hv : bootBuiltins x = some (.builtin id)) (ha : PA X (e :: es) (liftA w W fa))
    (hn : x ≠ "__name__" := by decide) (hdb : (x == ("__debug__" : Str)) = false := by decide) (he : starEach (e :: es) X.env = (false, eval e X.env) :: starEach es X.env := by rfl) (hpl : (backTo pos (starEach es X.env)).any (·.1) = false := by rfl) :
    PE X (.Call (.Name x p) (e :: es) [] pos) (lift w W (eB g fa)) :=
  PE_imp (pe_callB hc hg hm hv ha hn hdb he hpl) fun σ H Q ⟨ρ, B, s, μ, rl, rs, o⟩ => liftA_k rl rs o fun xs ds ρ2 B2 H2 μ2 _ rl2 _ p o2 => hs _ xs ds ρ2 B2 H2 μ2 Q rl2 p o2
theorem r_callT {T : String} {x : Str} {p pos : Pos} {e : Expr} {es : List Expr} {r : List V → Hp → VK → Prop} {g : List AD → Store → R AD} {fa : SA} (hc : CallR X (.type T) r) (hs : CallS w r g) (hg : Gl X x) (hm : X.mg x = none) (hv : bootBuiltins x = some (.type T)) (ha : PA X (e :: es) (liftA w W fa))
    (hn : x ≠ "__name__" := by decide) (hdb : (x == ("__debug__" : Str)) = false := by decide) (he : starEach (e :: es) X.env = (false, eval e X.env) :: starEach es X.env := by rfl) (hpl : (backTo pos (starEach es X.env)).any (·.1) = false := by rfl) :
    PE X (.Call (.Name x p) (e :: es) [] pos) (lift w W (eB g fa)) :=
  PE_imp (pe_callTy hc hg hm hv ha hn hdb he hpl) fun σ H Q ⟨ρ, B, s, μ, rl, rs, o⟩ => liftA_k rl rs o fun xs ds ρ2 B2 H2 μ2 _ rl2 _ p o2 => hs _ xs ds ρ2 B2 H2 μ2 Q rl2 p o2
def b1 (g : AD → Store → R AD) : List AD → Store → R AD := fun ds μ => match ds with
  | [x] => g x μ
  | _ => .bad
def bb (g : AD → AD → Store → R AD) : List AD → Store → R AD := fun ds μ => match ds with
  | [x, y] => g x y μ
  | _ => .bad
theorem call1 {r : List V → Hp → VK → Prop} {g : AD → Store → R AD} (h : ∀ (W : Value → Option Addr → Hp → Prop) (v : V) (d : AD) (ρ : List Addr) (B H : Hp) (μ : Store) (Q : VK), Rl w ρ B μ H → Rep w ρ B v d → Out w W (PV w) ρ B H (g d μ) Q → r [v] H Q) : CallS w r (b1 g) := by
  intro W xs ds ρ B H μ Q rl p o
  cases p with
  | nil => exact False.elim o
  | cons p q =>
    cases q with
    | nil => exact h W _ _ ρ B H μ Q rl p o
    | cons _ _ => exact False.elim o
theorem call2 {r : List V → Hp → VK → Prop} {g : AD → AD → Store → R AD} (h : ∀ (W : Value → Option Addr → Hp → Prop) (v u : V) (d e : AD) (ρ : List Addr) (B H : Hp) (μ : Store) (Q : VK), Rl w ρ B μ H → Rep w ρ B v d → Rep w ρ B u e → Out w W (PV w) ρ B H (g d e μ) Q → r [v, u] H Q) : CallS w r (bb g) := by
  intro W xs ds ρ B H μ Q rl p o
  cases p with
  | nil => exact False.elim o
  | cons p q =>
    cases q with
    | nil => exact False.elim o
    | cons p2 q =>
      cases q with
      | nil => exact h W _ _ _ _ ρ B H μ Q rl p p2 o
      | cons _ _ => exact False.elim o
def gLen : AD → Store → R AD := fun x μ => match x with
  | .str z => chk (decide ((sL z).length ≤ sizeLine)) (.ok (.int (sL z).length) μ)
  | x => (match seqD μ x with
    | some es => .ok (.int es.length) μ
    | none => .bad)
abbrev rLen (K : PySem.W.Frag) : List V → Hp → VK → Prop := fun xs H Q => ∃ x n, xs = [x] ∧ LenV K x H n ∧ Q (.int n) H
theorem s_len : CallS w (rLen w.K) (b1 gLen) := call1 fun W v d ρ B H μ Q rl p o => by
  have gen : (∀ z, d ≠ .str z) → rLen w.K [v] H Q := fun n1 => by
    have e2 : gLen d μ = (match seqD μ d with | some es => .ok (.int es.length) μ | none => .bad) := by
      cases d with
      | str z => exact absurd rfl (n1 z)
      | _ => rfl
    cases e : seqD μ d with
    | none => rw [e2, e] at o; exact o.elim
    | some es =>
      rw [e2, e] at o
      obtain ⟨a, vs, rfl, h1, h2⟩ := seqD_ok rl p e
      refine ⟨.ref a, vs.length, rfl, ?_, ?_⟩
      · rcases h1 with h1 | h1
        · exact .inl ⟨vs, h1, rfl⟩
        · exact .inr ⟨vs, h1, rfl⟩
      · rw [h2.length]; exact out_now rl (.int _) o
  cases d with
  | str z =>
    cases p
    obtain ⟨hc, o⟩ := chk_out o
    exact ⟨.str z, z.length, rfl, ⟨of_decide_eq_true hc, rfl⟩, out_now rl (.int _) o⟩
  | _ => exact gen fun _ z => by cases z
/-! int, abs, max, min -/
def gInt : AD → Store → R AD := fun x μ => match x with
  | .int i => .ok (.int i) μ
  | .bl b => .ok (.int (b2 b)) μ
  | _ => .bad
theorem s_int : CallS w (fun xs H Q => (∃ i, xs = [V.int i] ∧ Q (.int i) H) ∨ ∃ k, xs = [V.bl k] ∧ Q (.int (if k then 1 else 0)) H) (b1 gInt) := call1 fun W v d ρ B H μ Q rl p o => by
  cases p with
  | int i => exact .inl ⟨i, rfl, out_now rl (.int _) o⟩
  | bl b => exact .inr ⟨b, rfl, out_now rl (.int _) o⟩
  | _ => exact o.elim
def gAbs : AD → Store → R AD := fun x μ => match x with
  | .int i => .ok (.int (if i < 0 then -i else i)) μ
  | _ => .bad
theorem s_abs : CallS w (fun xs H Q => ∃ i, xs = [V.int i] ∧ Q (.int (if i < 0 then -i else i)) H) (b1 gAbs) := call1 fun W v d ρ B H μ Q rl p o => by
  cases p with
  | int i => exact ⟨i, rfl, out_now rl (.int _) o⟩
  | _ => exact o.elim
def gII (f : Int → Int → Int) : AD → AD → Store → R AD := fun x y μ => match x, y with
  | .int i, .int j => .ok (.int (f i j)) μ
  | _, _ => .bad
theorem s_gII {f : Int → Int → Int} : CallS w (fun xs H Q => ∃ i j, xs = [V.int i, V.int j] ∧ Q (.int (f i j)) H) (bb (gII f)) := call2 fun W v u d e ρ B H μ Q rl p q o => by
  cases p with
  | int i =>
    cases q with
    | int j => exact ⟨i, j, rfl, out_now rl (.int _) o⟩
    | _ => exact o.elim
  | _ => exact o.elim
abbrev gMax : AD → AD → Store → R AD := gII fun i j => if j > i then j else i
abbrev gMin : AD → AD → Store → R AD := gII fun i j => if j < i then j else i
theorem s_max : CallS w (fun xs H Q => ∃ i j, xs = [V.int i, V.int j] ∧ Q (.int (if j > i then j else i)) H) (bb gMax) := s_gII
theorem s_min : CallS w (fun xs H Q => ∃ i j, xs = [V.int i, V.int j] ∧ Q (.int (if j < i then j else i)) H) (bb gMin) := s_gII
/-! sum, all, any -/
def intsA : List AD → Option (List Int)
  | [] => some []
  | .int i :: r => (match intsA r with
    | some l => some (i :: l)
    | none => none)
  | _ => none
def blsA : List AD → Option (List Bool)
  | [] => some []
  | .bl i :: r => (match blsA r with
    | some l => some (i :: l)
    | none => none)
  | _ => none
def strsA : List AD → Option (List Str)
  | [] => some []
  | .str i :: r => (match strsA r with
    | some l => some (i :: l)
    | none => none)
  | _ => none
theorem intsA_ok {ρ : List Addr} {B : Hp} : ∀ {vs : List V} {ds : List AD} {l : List Int}, Reps w ρ B vs ds → intsA ds = some l → vs = l.map V.int ∧ ds = l.map AD.int
  | _, _, l, .nil, h => by cases h; exact ⟨rfl, rfl⟩
  | _, _, l, .cons p q, h => by
    cases p with
    | int i =>
      simp only [intsA] at h
      split at h
      · cases h
        rename_i e
        obtain ⟨a, b⟩ := intsA_ok q e
        exact ⟨by rw [a]; rfl, by rw [b]; rfl⟩
      · cases h
    | _ => simp only [intsA] at h; cases h
theorem blsA_ok {ρ : List Addr} {B : Hp} : ∀ {vs : List V} {ds : List AD} {l : List Bool}, Reps w ρ B vs ds → blsA ds = some l → vs = l.map V.bl ∧ ds = l.map AD.bl
  | _, _, l, .nil, h => by cases h; exact ⟨rfl, rfl⟩
  | _, _, l, .cons p q, h => by
    cases p with
    | bl i =>
      simp only [blsA] at h
      split at h
      · cases h
        rename_i e
        obtain ⟨a, b⟩ := blsA_ok q e
        exact ⟨by rw [a]; rfl, by rw [b]; rfl⟩
      · cases h
    | _ => simp only [blsA] at h; cases h
theorem strsA_ok {ρ : List Addr} {B : Hp} : ∀ {vs : List V} {ds : List AD} {l : List Str}, Reps w ρ B vs ds → strsA ds = some l → vs = l.map V.str ∧ ds = l.map AD.str
  | _, _, l, .nil, h => by cases h; exact ⟨rfl, rfl⟩
  | _, _, l, .cons p q, h => by
    cases p with
    | str i =>
      simp only [strsA] at h
      split at h
      · cases h
        rename_i e
        obtain ⟨a, b⟩ := strsA_ok q e
        exact ⟨by rw [a]; rfl, by rw [b]; rfl⟩
      · cases h
    | _ => simp only [strsA] at h; cases h
theorem reps_int {ρ : List Addr} {B : Hp} : ∀ l : List Int, Reps w ρ B (l.map V.int) (l.map AD.int)
  | [] => .nil
  | i :: r => .cons (.int i) (reps_int r)
theorem reps_str {ρ : List Addr} {B : Hp} : ∀ l : List Str, Reps w ρ B (l.map V.str) (l.map AD.str)
  | [] => .nil
  | i :: r => .cons (.str i) (reps_str r)
def sumI : List Int → Int
  | [] => 0
  | a :: r => a + sumI r
theorem sumI_eq : ∀ l : List Int, l.sum = sumI l
  | [] => rfl
  | a :: r => by rw [List.sum_cons, sumI_eq r]; rfl
def gSum : AD → Store → R AD := fun x μ => match lstD μ x with
  | some ds => (match intsA ds with
    | some l => .ok (.int (sumI l)) μ
    | none => .bad)
  | none => .bad
theorem s_sum : CallS w (rSum w.K) (b1 gSum) := call1 fun W v d ρ B H μ Q rl p o => by
  unfold gSum at o
  cases e : lstD μ d with
  | none => rw [e] at o; exact o.elim
  | some ds =>
    rw [e] at o
    simp only at o
    obtain ⟨a, vs, rfl, h1, h2⟩ := lstD_ok rl p e
    cases e2 : intsA ds with
    | none => rw [e2] at o; exact o.elim
    | some l =>
      rw [e2] at o
      obtain ⟨k1, _⟩ := intsA_ok h2 e2
      subst k1
      exact ⟨a, l, rfl, h1, by rw [sumI_eq]; exact out_now rl (.int _) o⟩
def allB : List Bool → Bool
  | [] => true
  | a :: r => a && allB r
def anyB : List Bool → Bool
  | [] => false
  | a :: r => a || anyB r
theorem allB_eq : ∀ l : List Bool, l.all id = allB l
  | [] => rfl
  | a :: r => by rw [List.all_cons, allB_eq r]; rfl
theorem anyB_eq : ∀ l : List Bool, l.any id = anyB l
  | [] => rfl
  | a :: r => by rw [List.any_cons, anyB_eq r]; rfl
def gBls (f : List Bool → Bool) : AD → Store → R AD := fun x μ => match lstD μ x with
  | some ds => (match blsA ds with
    | some l => .ok (.bl (f l)) μ
    | none => .bad)
  | none => .bad
theorem s_bls {f : List Bool → Bool} : CallS w (fun vs H Q => ∃ (a : Addr) (bs : List Bool), vs = [V.ref a] ∧ SqL w.K H a (bs.map V.bl) ∧ Q (.bl (f bs)) H) (b1 (gBls f)) := call1 fun W v d ρ B H μ Q rl p o => by
  unfold gBls at o
  cases e : lstD μ d with
  | none => rw [e] at o; exact o.elim
  | some ds =>
    rw [e] at o
    simp only at o
    obtain ⟨a, vs, rfl, h1, h2⟩ := lstD_ok rl p e
    cases e2 : blsA ds with
    | none => rw [e2] at o; exact o.elim
    | some l =>
      rw [e2] at o
      obtain ⟨k1, _⟩ := blsA_ok h2 e2
      subst k1
      exact ⟨a, l, rfl, h1, out_now rl (.bl _) o⟩
theorem s_all : CallS w (rAll w.K) (b1 (gBls allB)) := by
  have := s_bls (w := w) (f := allB)
  intro W xs ds ρ B H μ Q rl p o
  obtain ⟨a, bs, h1, h2, h3⟩ := this W xs ds ρ B H μ Q rl p o
  exact ⟨a, bs, h1, h2, by rw [allB_eq]; exact h3⟩
theorem s_any : CallS w (rAny w.K) (b1 (gBls anyB)) := by
  have := s_bls (w := w) (f := anyB)
  intro W xs ds ρ B H μ Q rl p o
  obtain ⟨a, bs, h1, h2, h3⟩ := this W xs ds ρ B H μ Q rl p o
  exact ⟨a, bs, h1, h2, by rw [anyB_eq]; exact h3⟩
/-! list(..), tuple(..) -/
def gList : AD → Store → R AD := fun x μ => match seqD μ x with
  | some es => .ok (.ref μ.length) (μ ++ [.lst es])
  | none => .bad
theorem s_list : CallS w (fun xs H Q => ∃ p ys, xs = [V.ref p] ∧ (SqL w.K H p ys ∨ SqT w.K H p ys) ∧ ∀ l, H l = none → Q (.ref l) (upd H l (.lst ys))) (b1 gList) := call1 fun W v d ρ B H μ Q rl p o => by
  unfold gList at o
  cases e : seqD μ d with
  | none => rw [e] at o; exact o.elim
  | some es =>
    rw [e] at o
    obtain ⟨a, vs, rfl, h1, h2⟩ := seqD_ok rl p e
    exact ⟨a, vs, rfl, h1, fun l hl => own_lst rl h2 hl o⟩
def gTuple : AD → Store → R AD := fun x μ => match x with
  | .tup ds => .ok (.tup ds) μ
  | x => (match lstD μ x with
    | some es => .ok (.tup es) μ
    | none => .bad)
theorem s_tuple : CallS w (fun xs H Q => ∃ p ys, xs = [V.ref p] ∧ ((SqL w.K H p ys ∧ ∀ l, H l = none → Q (.ref l) (upd H l (.tup ys))) ∨ (SqT w.K H p ys ∧ Q (.ref p) H))) (b1 gTuple) := call1 fun W v d ρ B H μ Q rl p o => by
  cases d with
  | tup ds =>
    cases p with
    | tup s q => exact ⟨_, _, rfl, .inr ⟨ex_t rl.ex s, out_now rl (.tup s q) o⟩⟩
  | _ =>
    unfold gTuple at o
    simp only at o
    split at o
    · rename_i es e
      obtain ⟨a, vs, rfl, h1, h2⟩ := lstD_ok rl p e
      exact ⟨a, vs, rfl, .inl ⟨h1, fun l hl => new_tup rl h2 hl o⟩⟩
    · exact o.elim
end
end SC

set_option Elab.async false
set_option linter.all false
set_option maxRecDepth 100000
set_option maxHeartbeats 2000000
namespace SC
open PySem PySem.Spec PyProof.Rows L2
/-! ### zip of two lists, tuples, texts -/
inductive Kd where
  | l (a : Addr) | t (a : Addr) | s (z : Str) (tk : Tok)
def Kd.addr : Kd → List Addr
  | .l a => [a]
  | .t a => [a]
  | .s _ _ => []
def Kd.sq (K : PySem.W.Frag) (H : Hp) : Kd → List V → Prop
  | .l a, xs => SqL K H a xs
  | .t a, xs => SqT K H a xs
  | .s z _, xs => xs = z.cps.toList.map fun c => V.str ⟨#[c]⟩
def Kd.iter (it i : Nat) (h : Heap) : Kd → Prop
  | .l a => h.IsListIter it a i
  | .t a => h.IsTupleIter it a i
  | .s z tk => h.IsStrIter it (strIterType z) z tk i
def Kd.obj : Kd → Obj
  | .l a => { cls := .type "list_iterator", data := .fields #[.ref a, .int 0 0] }
  | .t a => { cls := .type "tuple_iterator", data := .fields #[.ref a, .int 0 0] }
  | .s z tk => { cls := .type (strIterType z), data := .fields #[.str z tk, .int 0 0] }
def Kd.val : Kd → Value
  | .l a => .ref a
  | .t a => .ref a
  | .s z tk => .str z tk
def Kd.re (k : Kd) (t : Tok) : Kd := match k with
  | .s z _ => .s z t
  | k => k
theorem Kd.start {k : Kd} {h : Heap} {it : Nat} (e : h.get? it = some k.obj) : k.iter it 0 h := by
  cases k with
  | l a => exact ⟨_, e, rfl, rfl⟩
  | t a => exact ⟨_, e, rfl, rfl⟩
  | s z tk => exact ⟨_, e, rfl, rfl⟩
theorem Kd.at' {k : Kd} {h h' : Heap} {it i : Nat} (st : k.iter it i h) (q : ∀ o, h.get? it = some o → h'.get? it = some o) : k.iter it i h' := by
  cases k with
  | l a => obtain ⟨o, e, r⟩ := st; exact ⟨o, q o e, r⟩
  | t a => obtain ⟨o, e, r⟩ := st; exact ⟨o, q o e, r⟩
  | s z tk => obtain ⟨o, e, r⟩ := st; exact ⟨o, q o e, r⟩
theorem Kd.there {k : Kd} {h : Heap} {it i : Nat} (st : k.iter it i h) : ∃ o, h.get? it = some o ∧ ∀ v, o.data ≠ .cell v := by
  cases k with
  | l a => obtain ⟨o, e, _, d⟩ := st; exact ⟨o, e, fun v z => by rw [d] at z; cases z⟩
  | t a => obtain ⟨o, e, _, d⟩ := st; exact ⟨o, e, fun v z => by rw [d] at z; cases z⟩
  | s z tk => obtain ⟨o, e, _, d⟩ := st; exact ⟨o, e, fun v z => by rw [d] at z; cases z⟩
section
variable {X : Cx} {pins : List (Addr × Obj)} {σ : L2.St} {H : Hp} {s : Shared}
/-- the iterator draws -/
theorem Kd.draws {k : Kd} {xs : List V} {it i : Nat} {A : Around} (hh : A.handled = none) (I : Inv X pins σ H s) (q : k.sq X.K H xs) (st : k.iter it i s.heap) (ne : ∀ a ∈ k.addr, a ≠ it) :
    ∃ (P : Nat → Value → Prop) (St : Nat → Heap → Prop), Draws X.prog X.w A it (it :: k.addr) xs.length P St ∧ St i s.heap ∧ (∀ j h, St j h → k.iter it j h) ∧ ∀ j u, P j u → ∃ v, xs[j]? = some v ∧ RelV v u := by
  cases k with
  | l a =>
    obtain ⟨its, rv, p, _⟩ := I.list q
    have hsz : xs.length = its.toArray.size := by rw [rv.length, List.size_toArray]
    rw [hsz]
    refine ⟨fun i v => its.toArray[i]? = some v, fun i h => h.IsListIter it a i ∧ h.IsList a its.toArray, Draws.list hh it a (ne a (by simp [Kd.addr])) its.toArray, ⟨st, p.isList⟩, fun j h z => z.1, fun j u z => ?_⟩
    have z : its[j]? = some u := by simpa using z
    have hj : j < xs.length := by rw [rv.length]; exact (List.getElem?_eq_some_iff.mp z).1
    obtain ⟨u', h1, h2⟩ := rv.get (i := j) (List.getElem?_eq_getElem hj)
    rw [z] at h1; cases h1
    exact ⟨_, List.getElem?_eq_getElem hj, h2⟩
  | t a =>
    obtain ⟨its, rv, p, _⟩ := I.tuple q
    have hsz : xs.length = its.toArray.size := by rw [rv.length, List.size_toArray]
    rw [hsz]
    refine ⟨fun i v => its.toArray[i]? = some v, fun i h => h.IsTupleIter it a i ∧ h.IsTuple a its.toArray, Draws.tuple hh it a (ne a (by simp [Kd.addr])) its.toArray, ⟨st, (show s.heap.IsTuple a its.toArray from p)⟩, fun j h z => z.1, fun j u z => ?_⟩
    have z : its[j]? = some u := by simpa using z
    have hj : j < xs.length := by rw [rv.length]; exact (List.getElem?_eq_some_iff.mp z).1
    obtain ⟨u', h1, h2⟩ := rv.get (i := j) (List.getElem?_eq_getElem hj)
    rw [z] at h1; cases h1
    exact ⟨_, List.getElem?_eq_getElem hj, h2⟩
  | s z tk =>
    have q : xs = z.cps.toList.map fun c => V.str ⟨#[c]⟩ := q
    have hl : xs.length = z.cps.size := by rw [q, List.length_map, Array.length_toList]
    rw [hl]
    refine ⟨fun i v => ∃ c u, z.cps[i]? = some c ∧ v = .str ⟨#[c]⟩ u, fun i h => h.IsStrIter it (strIterType z) z tk i, Draws.text hh it z tk, st, fun j h y => y, fun j u y => ?_⟩
    obtain ⟨c, tk', e1, rfl⟩ := y
    refine ⟨.str ⟨#[c]⟩, ?_, ⟨_, rfl⟩⟩
    rw [q, List.getElem?_map, Array.getElem?_toList, e1]
    rfl
end
def ItzA (K : PySem.W.Frag) (k1 k2 : Kd) : It :=
  ⟨fun i H => ∃ xs ys x y, k1.sq K H xs ∧ k2.sq K H ys ∧ xs[i]? = some x ∧ ys[i]? = some y,
    fun i H v H' => ∃ T x y, v = .ref T ∧ H T = none ∧ H' = upd H T (.tup [x, y]) ∧ (∀ xs, k1.sq K H xs → xs[i]? = some x) ∧ ∀ ys, k2.sq K H ys → ys[i]? = some y,
    fun i H => ∃ xs ys, k1.sq K H xs ∧ k2.sq K H ys ∧ i ≤ xs.length ∧ i ≤ ys.length ∧ (i = xs.length ∨ i = ys.length)⟩
theorem tup_inj {X : Cx} {pins : List (Addr × Obj)} {σ : L2.St} {H : Hp} {s : Shared} (I : Inv X pins σ H s) {a : Addr} {xs ys : List V} (h1 : SqT X.K H a xs) (h2 : SqT X.K H a ys) : xs = ys := by
  obtain ⟨its, r1, p1, _⟩ := I.tuple h1
  obtain ⟨its2, r2, p2, _⟩ := I.tuple h2
  obtain ⟨o, e, _, n, d⟩ := p1
  obtain ⟨o2, e2, _, n2, d2⟩ := p2
  rw [e] at e2; cases e2
  rw [d] at d2
  have z : its = its2 := by injection d2 with z _; simpa using congrArg Array.toList z
  subst z
  exact Vals.inj r1 r2
theorem Kd.inj {X : Cx} {pins : List (Addr × Obj)} {σ : L2.St} {H : Hp} {s : Shared} (I : Inv X pins σ H s) {k : Kd} {xs ys : List V} (h1 : k.sq X.K H xs) (h2 : k.sq X.K H ys) : xs = ys := by
  cases k with
  | l a => exact I.list_inj h1 h2
  | t a => exact tup_inj I h1 h2
  | s z tk => exact (show xs = _ from h1).trans (show ys = _ from h2).symm
structure Zs (z TI TO i1 i2 : Addr) (l1 l2 : List Addr) : Prop where
  TIz : TI ≠ z
  TOz : TO ≠ z
  TITO : TI ≠ TO
  TIi1 : TI ≠ i1
  TIi2 : TI ≠ i2
  zi1 : z ≠ i1
  zi2 : z ≠ i2
  Ti1 : TO ≠ i1
  Ti2 : TO ≠ i2
  ii : i1 ≠ i2
  a1 : ∀ a ∈ l1, a ≠ z ∧ a ≠ TO ∧ a ≠ i1 ∧ a ≠ i2
  a2 : ∀ a ∈ l2, a ≠ z ∧ a ≠ TO ∧ a ≠ i1 ∧ a ≠ i2
theorem zs_new (n : Nat) {l1 l2 : List Nat} (h1 : ∀ a ∈ l1, a < n) (h2 : ∀ a ∈ l2, a < n) : Zs (n + 4) (n + 2) (n + 3) n (n + 1) l1 l2 :=
  have ne : ∀ {a b : Nat}, a < b ∨ b < a → a ≠ b := fun h e => by omega
  ⟨ne (by omega), ne (by omega), ne (by omega), ne (by omega), ne (by omega), ne (by omega), ne (by omega), ne (by omega), ne (by omega), ne (by omega),
    fun a ha => have := h1 a ha; ⟨ne (by omega), ne (by omega), ne (by omega), ne (by omega)⟩, fun a ha => have := h2 a ha; ⟨ne (by omega), ne (by omega), ne (by omega), ne (by omega)⟩⟩
theorem zs_le (n c : Nat) (h : c ∈ [n + 4, n + 2, n + 3, n, n + 1]) : n ≤ c := by
  have e' : c = n + 4 ∨ c = n + 2 ∨ c = n + 3 ∨ c = n ∨ c = n + 1 := by simpa using h
  omega
theorem Zs.sep {z TI TO i1 i2 : Addr} {l1 l2 : List Addr} (S : Zs z TI TO i1 i2 l1 l2) : ZipSep2 z TI TO i1 i2 (i1 :: l1) (i2 :: l2) where
  TIz := S.TIz
  TOz := S.TOz
  TITO := S.TITO
  TIi1 := S.TIi1
  mem1 := by simp
  zf1 := fun h => by
    rcases List.mem_cons.mp h with h | h
    · exact S.zi1 h
    · exact (S.a1 _ h).1 rfl
  Tf1 := fun h => by
    rcases List.mem_cons.mp h with h | h
    · exact S.Ti1 h
    · exact (S.a1 _ h).2.1 rfl
  TIi2 := S.TIi2
  mem2 := by simp
  zf2 := fun h => by
    rcases List.mem_cons.mp h with h | h
    · exact S.zi2 h
    · exact (S.a2 _ h).1 rfl
  Tf2 := fun h => by
    rcases List.mem_cons.mp h with h | h
    · exact S.Ti2 h
    · exact (S.a2 _ h).2.1 rfl
  sep1_2 := fun h => by
    rcases List.mem_cons.mp h with h | h
    · exact S.ii h
    · exact (S.a2 _ h).2.2.1 rfl
  sep2_1 := fun h => by
    rcases List.mem_cons.mp h with h | h
    · exact S.ii h.symm
    · exact (S.a1 _ h).2.2.2 rfl
theorem turn_zipA {P : Program} {w : World} {K : PySem.W.Frag} {elts : List Expr} {kk : Nat} {tpos : Pos} {z TI TO i1 i2 : Addr} {k1 k2 : Kd} (D : Zs z TI TO i1 i2 k1.addr k2.addr) :
    Turn P w K (.Tuple elts kk tpos) (ItzA K k1 k2) [z, TI, TO, i1, i2] z (fun i h => IsZip h z TI TO .none ∧ IsTupOf2 h TI (.ref i1) (.ref i2) ∧ (∃ x y, IsTupOf2 h TO x y) ∧ k1.iter i1 i h ∧ k2.iter i2 i h) where
  mem := by simp
  obj := fun i h st c hc => by
    obtain ⟨hz, hTI, ⟨x, y, hTO⟩, h1, h2⟩ := st
    have e' : c = z ∨ c = TI ∨ c = TO ∨ c = i1 ∨ c = i2 := by simpa using hc
    rcases e' with q | q | q | q | q
    · rw [q]; exact ⟨_, hz, fun v q => nomatch q⟩
    · rw [q]; exact ⟨_, hTI, fun v q => nomatch q⟩
    · rw [q]; exact ⟨_, hTO, fun v q => nomatch q⟩
    · rw [q]; exact Kd.there h1
    · rw [q]; exact Kd.there h2
  keep := fun i h h' st k => by
    obtain ⟨hz, hTI, ⟨x, y, hTO⟩, h1, h2⟩ := st
    exact ⟨k z (by simp) _ hz, k TI (by simp) _ hTI, ⟨x, y, k TO (by simp) _ hTO⟩, Kd.at' h1 fun o q => k i1 (by simp) o q, Kd.at' h2 fun o q => k i2 (by simp) o q⟩
  item := by
    intro X hP hw hK hc i pins s σ H E I hf st hg
    subst hP hw hK
    obtain ⟨hz, hTI, ⟨x0, y0, hTO⟩, h1, h2⟩ := st
    obtain ⟨xs, ys, x, y, hqx, hqy, hx, hy⟩ := hg
    obtain ⟨P1, St1, D1, st1, b1, p1⟩ := Kd.draws (A := X.A.in1) (I.ok.hd hc) I hqx h1 fun a ha => (D.a1 a ha).2.2.1
    obtain ⟨P2, St2, D2, st2, b2, p2⟩ := Kd.draws (A := X.A.in1) (I.ok.hd hc) I hqy h2 fun a ha => (D.a2 a ha).2.2.2
    have hzl : z < s.heap.objs.size := Heap.lt_size hz
    refine wpAny_pyNext_zipD2_item D.sep D1 D2 hz hTI hTO st1 st2 (List.getElem?_eq_some_iff.mp hx).1 (List.getElem?_eq_some_iff.mp hy).1 fun u u2 h' tk y1 y2 z' TO' st1' st2' hT hsz hk => ?_
    obtain ⟨x', hx', ru⟩ := p1 i u y1
    rw [hx] at hx'; cases hx'
    obtain ⟨y', hy', ru2⟩ := p2 i u2 y2
    rw [hy] at hy'; cases hy'
    refine ⟨_, rfl, wpAny_letOwnedTupleGo_zip (s := { s with heap := h', toks := tk }) z' fun h'' z'' sb => ?_⟩
    have hT2 : h''.get? s.heap.objs.size = some { cls := .type "tuple", data := .seq #[u, u2] } := (sb.2 _ (Nat.ne_of_gt hzl)).trans hT
    have new : ObjOk X.prog X.w (upd H s.heap.objs.size (.tup [x, y])) h'' s.heap.objs.size (.tup [x, y]) :=
      ⟨by show 2 ≤ sizeLine; decide, [u, u2], .cons ru (.cons ru2 .nil), ⟨_, hT2, rfl, _, rfl⟩⟩
    have I1 : Inv X pins σ (upd H s.heap.objs.size (.tup [x, y])) { s with heap := h'', toks := tk } :=
      I.turnedNew (ch := [z, TI, TO, i1, i2]) (fun c o hb q => (sb.2 c (fun q' => hb (by simp [q']))).trans (hk c o (fun q' => hb (by simp [q'])) (fun q' => hb (by simp [q'])) (fun q' => hb (by simp [q'])) (fun q' => hb (by simp [q'])) q)) hf (Nat.le_refl _) new
    refine ⟨.ref s.heap.objs.size, _, I1, rfl, ⟨_, x, y, rfl, I.hok.fresh (Nat.le_refl _), rfl, fun l hl => by rw [Kd.inj I hl hqx]; exact hx, fun l hl => by rw [Kd.inj I hl hqy]; exact hy⟩, ⟨z'', ?_, ⟨u, u2, ?_⟩, ?_, ?_⟩, fun c hcm => ?_⟩
    · exact (sb.2 _ D.TIz).trans (hk _ _ D.TIz D.TITO D.TIi1 D.TIi2 hTI)
    · exact (sb.2 _ D.TOz).trans TO'
    · exact Kd.at' (b1 _ _ st1') fun o q => (sb.2 _ (Ne.symm D.zi1)).trans q
    · exact Kd.at' (b2 _ _ st2') fun o q => (sb.2 _ (Ne.symm D.zi2)).trans q
    · have hlt : c < s.heap.objs.size := by
        have e' : c = z ∨ c = TI ∨ c = TO ∨ c = i1 ∨ c = i2 := by simpa using hcm
        rcases e' with q | q | q | q | q
        · rw [q]; exact hzl
        · rw [q]; exact Heap.lt_size hTI
        · rw [q]; exact Heap.lt_size hTO
        · rw [q]; obtain ⟨_, e1, _⟩ := Kd.there h1; exact Heap.lt_size e1
        · rw [q]; obtain ⟨_, e2, _⟩ := Kd.there h2; exact Heap.lt_size e2
      rw [upd_ne (Nat.ne_of_lt hlt)]
      exact (hf c hcm).1
  done := by
    intro X hP hw hK hc i pins s σ H E I hf st hg
    subst hP hw hK
    obtain ⟨hz, hTI, ⟨x0, y0, hTO⟩, h1, h2⟩ := st
    obtain ⟨xs, ys, hqx, hqy, e1, e2, e3⟩ := hg
    obtain ⟨P1, St1, D1, st1, b1, p1⟩ := Kd.draws (A := X.A.in1) (I.ok.hd hc) I hqx h1 fun a ha => (D.a1 a ha).2.2.1
    obtain ⟨P2, St2, D2, st2, b2, p2⟩ := Kd.draws (A := X.A.in1) (I.ok.hd hc) I hqy h2 fun a ha => (D.a2 a ha).2.2.2
    exact wpAny_pyNext_zipD2_end D.sep D1 D2 hz hTI hTO st1 st2 e1 e2 e3 fun h' tk hk => ⟨rfl, I.turnedL (ch := [z, TI, TO, i1, i2]) (fun c o hb q =>
      hk c o (fun q' => hb (by simp [q'])) (fun q' => hb (by simp [q'])) (fun q' => hb (by simp [q'])) (fun q' => hb (by simp [q'])) q) hf⟩
  self := fun A i s Q E st h => wpAny_pyIter_zip st.1 h
/-- the things that are walked -/
def KdOf (K : PySem.W.Frag) (H : Hp) (x : V) (k : Kd) (xs : List V) : Prop := k.sq K H xs ∧ match k with
  | .l a => x = .ref a
  | .t a => x = .ref a
  | .s z _ => x = .str z
def iZipK (K : PySem.W.Frag) (ta : TA) : TI := fun σ H R => ta σ H fun vs H1 => ∃ x y, vs = [x, y] ∧ ∃ k1 xs k2 ys, KdOf K H1 x k1 xs ∧ KdOf K H1 y k2 ys ∧ ∀ t1 t2, R (ItzA K (k1.re t1) (k2.re t2)) H1
theorem KdOf.begins {X : Cx} {pins : List (Addr × Obj)} {σ : L2.St} {H : Hp} {s : Shared} (I : Inv X pins σ H s) {x : V} {u : Value} {k : Kd} {xs : List V} (d : KdOf X.K H x k xs) (r : RelV x u) :
    ∃ (t : Tok) (F : Heap → Prop), u = (k.re t).val ∧ Begins (k.re t).val (k.re t).obj F ∧ F s.heap ∧ ∀ a ∈ (k.re t).addr, a < s.heap.objs.size := by
  obtain ⟨q, e⟩ := d
  cases k with
  | l a =>
    have e : x = .ref a := e
    subst e
    obtain ⟨its, rv, p, _⟩ := I.list q
    exact ⟨0, _, r, begins_list a its.toArray, p.isList, fun b hb => by rw [List.mem_singleton.mp hb]; exact p.lt⟩
  | t a =>
    have e : x = .ref a := e
    subst e
    obtain ⟨its, rv, p, _⟩ := I.tuple q
    exact ⟨0, _, r, begins_tuple a its.toArray, (show s.heap.IsTuple a its.toArray from p), fun b hb => by
      rw [List.mem_singleton.mp hb]
      obtain ⟨o, ho, _⟩ := p
      exact Heap.lt_size ho⟩
  | s z tk =>
    have e : x = .str z := e
    subst e
    obtain ⟨t, rfl⟩ := r
    exact ⟨t, _, rfl, begins_text z t, trivial, fun b hb => absurd hb (by simp [Kd.addr, Kd.re])⟩
theorem pi_zipK {X : Cx} {e e2 : Expr} {ta : TA} {p pos tpos : Pos} {elts : List Expr} {kk : Nat} (hg : Gl X "zip") (hm : X.mg "zip" = none) (ha : PA X [e, e2] ta)
    (hs : starEach [e, e2] X.env = (false, eval e X.env) :: starEach [e2] X.env := by rfl) (hpl : (backTo pos (starEach [e2] X.env)).any (·.1) = false := by rfl) :
    PI X (.Tuple elts kk tpos) (.Call (.Name "zip" p) [e, e2] [] pos) (iZipK X.K ta) := by
  refine ⟨fun pins s σ H R I h => ?_⟩
  refine Call_ (ld_blt I hg hm PyProof.Rows.boot_zip (PyProof.Rows.callWith_type1 (thn (ha.run pos pins s σ H _ I h) fun us s1 ⟨vs, H1, I1, r1, q1⟩ => ?_) hs hpl))
  obtain ⟨x, y, ex, k1, xs, k2, ys, d1, d2, q⟩ := q1
  subst ex
  cases r1 with
  | cons r rr =>
    cases rr with
    | cons r' rr =>
      cases rr
      obtain ⟨t1, F1, rfl, B1, f1, a1⟩ := d1.begins I1 r
      obtain ⟨t2, F2, rfl, B2, f2, a2⟩ := d2.begins I1 r'
      refine zip_begins2 B1 B2 f1 f2 fun h' hz hTI hTO h1 h2 hsz hk => wpAny_pyIter_zip hz ?_
      have I2 : Inv X pins σ H1 { s1 with heap := h' } := I1.kept (t' := s1.toks) hk
      refine ⟨s1.heap.objs.size + 4, [s1.heap.objs.size + 4, s1.heap.objs.size + 2, s1.heap.objs.size + 3, s1.heap.objs.size, s1.heap.objs.size + 1], _, _, H1, rfl, I2,
        turn_zipA (k1 := k1.re t1) (k2 := k2.re t2) (zs_new s1.heap.objs.size a1 a2), ⟨hz, hTI, ⟨_, _, hTO⟩, Kd.start h1, Kd.start h2⟩, fun c hcm => ?_, q t1 t2⟩
      have hle : s1.heap.objs.size ≤ c := zs_le s1.heap.objs.size c hcm
      exact I1.fpOk hle (I1.hok.fresh hle)
end SC

set_option Elab.async false
set_option linter.all false
set_option maxRecDepth 100000
set_option maxHeartbeats 2000000
namespace SC
open PySem PySem.Spec PyProof.Rows L2
section
variable {X : Cx} {w : Wo} {W : WX}
/-! ### what is walked -/
def iAny (K : PySem.W.Frag) (tl : TE) : TI := fun σ H R => tl σ H fun x H1 => (∃ a, x = .ref a ∧ (∃ xs, SqL K H1 a xs) ∧ R (Itl K a) H1) ∨ (∃ a, x = .ref a ∧ (∃ xs, SqT K H1 a xs) ∧ R (Itt K a) H1) ∨ (∃ z, x = .str z ∧ R (Its z) H1)
theorem pi_any {tg l : Expr} {tl : TE} (hl : PE X l tl) : PI X tg l (iAny X.K tl) := by
  refine ⟨fun pins s σ H R I h => ?_⟩
  refine thn (hl.run pins s σ H _ I h) fun v s1 ⟨x, H1, I1, r1, q1⟩ => ?_
  rcases q1 with ⟨a, e, ⟨xs, hq⟩, q⟩ | ⟨a, e, ⟨xs, hq⟩, q⟩ | ⟨z, e, q⟩
  · subst e
    cases r1
    obtain ⟨its, rv, p, hz⟩ := I1.list hq
    refine wpAny_pyIter_list p.isList ?_
    refine ⟨s1.heap.objs.size, [s1.heap.objs.size], _, _, H1, rfl, I1.kept (t' := s1.toks) fun b o e => Heap.get?_push_of_some _ e, turn_list a _, ⟨_, Heap.get?_push_size _ rfl, rfl, rfl⟩, fun b hb => ?_, q⟩
    have e : b = s1.heap.objs.size := by simpa using hb
    subst e
    exact I1.fpOk (Nat.le_refl _) (I1.hok.fresh (Nat.le_refl _))
  · subst e
    cases r1
    obtain ⟨its, rv, p, hz⟩ := I1.tuple hq
    refine wpAny_pyIter_tuple (show s1.heap.IsTuple a its.toArray from p) ?_
    refine ⟨s1.heap.objs.size, [s1.heap.objs.size], _, _, H1, rfl, I1.kept (t' := s1.toks) fun b o e => Heap.get?_push_of_some _ e, turn_tuple a _, ⟨_, Heap.get?_push_size _ rfl, rfl, rfl⟩, fun b hb => ?_, q⟩
    have e : b = s1.heap.objs.size := by simpa using hb
    subst e
    exact I1.fpOk (Nat.le_refl _) (I1.hok.fresh (Nat.le_refl _))
  · subst e
    obtain ⟨t, rfl⟩ := r1
    cases ha : z.cps.all (· < 128)
    · exact wpAny_pyIter_wide ha (pi_one (tk := s1.toks) I1 _ (turn_str _ z t "str_iterator" (.inr rfl)) ⟨_, Heap.get?_push_size _ rfl, rfl, rfl⟩ q)
    · exact wpAny_pyIter_ascii ha (pi_one (tk := s1.toks) I1 _ (turn_str _ z t "str_ascii_iterator" (.inl rfl)) ⟨_, Heap.get?_push_size _ rfl, rfl, rfl⟩ q)
theorem PI_imp {tg e : Expr} {t t' : TI} (h : PI X tg e t) (i : ∀ σ H Q, t' σ H Q → t σ H Q) : PI X tg e t' := ⟨fun pins s σ H Q I q => h.run pins s σ H Q I (i σ H Q q)⟩
/-- the letters -/
def chars (l : List Nat) : List AD := l.map fun c => .str (lS [c])
theorem it_fixL' {ρ : List Addr} {B : Hp} {a : Addr} {vs : List V} {ds : List AD} (h : SqL w.K B a vs) (q : Reps w ρ B vs ds) : IterOk w ρ B (Itl w.K a) (.fix ds) := by
  intro ρ' B' H' μ' i pr ex rl hle
  have hH : SqL w.K H' a vs := ex_l rl.ex (ex_l ex h)
  simp only [Src.at]
  cases e : ds[i]? with
  | none => exact ⟨vs, hH, by rw [q.length]; exact List.getElem?_eq_none_iff.mp e⟩
  | some d =>
    obtain ⟨v, h1, h2⟩ := q.get e
    refine ⟨⟨vs, v, hH, h1⟩, fun x H'' y => ?_⟩
    obtain ⟨rfl, y2⟩ := y
    have := y2 vs hH
    rw [h1] at this; cases this
    exact ⟨B', Le.rfl' rl, rl, h2.mono ex pr⟩
theorem it_fixT {ρ : List Addr} {B : Hp} {a : Addr} {vs : List V} {ds : List AD} (h : SqT w.K B a vs) (q : Reps w ρ B vs ds) : IterOk w ρ B (Itt w.K a) (.fix ds) := by
  intro ρ' B' H' μ' i pr ex rl hle
  have hH : SqT w.K H' a vs := ex_t rl.ex (ex_t ex h)
  simp only [Src.at]
  cases e : ds[i]? with
  | none => exact ⟨vs, hH, by rw [q.length]; exact List.getElem?_eq_none_iff.mp e⟩
  | some d =>
    obtain ⟨v, h1, h2⟩ := q.get e
    refine ⟨⟨vs, v, hH, h1⟩, fun x H'' y => ?_⟩
    obtain ⟨rfl, y2⟩ := y
    have := y2 vs hH
    rw [h1] at this; cases this
    exact ⟨B', Le.rfl' rl, rl, h2.mono ex pr⟩
theorem it_own {ρ : List Addr} {B : Hp} {a : Addr} {n : Nat} (h : ρ[n]? = some a) : IterOk w ρ B (Itl w.K a) (.own n) := by
  intro ρ' B' H' μ' i pr ex rl hle
  obtain ⟨o, e1, e2⟩ := rl.obj n a (pr.get h)
  simp only [Src.at, e1]
  cases o with
  | dct _ => trivial
  | any => trivial
  | lst ds =>
    obtain ⟨vs, h1, q⟩ := e2
    have hH : SqL w.K H' a vs := SqL.of h1
    simp only
    cases e : ds[i]? with
    | none => exact ⟨vs, hH, by rw [q.length]; exact List.getElem?_eq_none_iff.mp e⟩
    | some d =>
      obtain ⟨v, k1, k2⟩ := q.get e
      refine ⟨⟨vs, v, hH, k1⟩, fun x H'' y => ?_⟩
      obtain ⟨rfl, y2⟩ := y
      have := y2 vs hH
      rw [k1] at this; cases this
      exact ⟨B', Le.rfl' rl, rl, k2⟩
theorem it_str {ρ : List Addr} {B : Hp} (z : Str) : IterOk w ρ B (Its z) (.fix (chars (sL z))) := by
  intro ρ' B' H' μ' i pr ex rl hle
  simp only [Src.at, chars, List.getElem?_map]
  cases e : (sL z)[i]? with
  | none =>
    have := List.getElem?_eq_none_iff.mp e
    exact this
  | some c =>
    have hl : i < (sL z).length := (List.getElem?_eq_some_iff.mp e).1
    refine ⟨hl, fun x H'' y => ?_⟩
    obtain ⟨rfl, c', y2, rfl⟩ := y
    have : (sL z)[i]? = some c' := by unfold sL; rw [Array.getElem?_toList]; exact y2
    rw [e] at this; cases this
    exact ⟨B', Le.rfl' rl, rl, .str _⟩
def rngL (lo : Int) : Nat → List AD
  | 0 => []
  | n + 1 => .int lo :: rngL (lo + 1) n
theorem rngL_get (lo : Int) : ∀ (n i : Nat), (rngL lo n)[i]? = if i < n then some (.int (lo + i)) else none
  | 0, i => by simp [rngL]
  | n + 1, 0 => by simp [rngL]
  | n + 1, i + 1 => by
    unfold rngL
    rw [List.getElem?_cons_succ, rngL_get (lo + 1) n i]
    by_cases h : i < n
    · rw [if_pos h, if_pos (by omega)]
      congr 2
      push_cast
      omega
    · rw [if_neg h, if_neg (by omega)]
theorem it_rng {ρ : List Addr} {B : Hp} (lo : Int) (n : Nat) : IterOk w ρ B (Itr lo n) (.fix (rngL lo n)) := by
  intro ρ' B' H' μ' i pr ex rl hle
  simp only [Src.at, rngL_get]
  by_cases h : i < n
  · rw [if_pos h]
    refine ⟨h, fun x H'' y => ?_⟩
    obtain ⟨rfl, rfl⟩ := y
    exact ⟨B', Le.rfl' rl, rl, .int _⟩
  · rw [if_neg h]
    exact Nat.le_of_not_lt h
def srcOf (μ : Store) (d : AD) : Option Src := match d with
  | .tup ds => some (.fix ds)
  | .lst ds => some (.fix ds)
  | .scr ds => some (.fix ds)
  | .str z => some (.fix (chars (sL z)))
  | .ref n => match μ[n]? with
    | some (.lst _) => some (.own n)
    | _ => none
  | _ => none
def iSeq (fe : SE) : SI := fun s μ => (fe s μ).bind fun d μ1 => match srcOf μ1 d with
  | some r => .ok r μ1
  | none => .bad
theorem ri_any {tg l : Expr} {fe : SE} (hl : PE X l (lift w W fe)) (hK : w.K = X.K := by rfl) : PI X tg l (liftI w W (iSeq fe)) :=
  PI_imp (pi_any hl) fun σ H R ⟨ρ, B, s, μ, rl, rs, o⟩ => by
    refine lift_one (k := fun d μ1 => match srcOf μ1 d with | some r => .ok r μ1 | none => .bad) (R' := fun x H1 => (∃ a, x = .ref a ∧ (∃ xs, SqL X.K H1 a xs) ∧ R (Itl X.K a) H1) ∨ (∃ a, x = .ref a ∧ (∃ xs, SqT X.K H1 a xs) ∧ R (Itt X.K a) H1) ∨ (∃ z, x = .str z ∧ R (Its z) H1)) rl rs o fun x dx ρ2 B2 H2 μ2 _ rl2 rs2 p o2 => ?_
    rw [← hK]
    cases p with
    | tup h q => exact .inr (.inl ⟨_, rfl, ⟨_, ex_t rl2.ex h⟩, o2 ρ2 B2 H2 _ (Le.rfl' rl2) rl2 (it_fixT h q)⟩)
    | lst h q => exact .inl ⟨_, rfl, ⟨_, SqL.of (rl2.ex _ _ h)⟩, o2 ρ2 B2 H2 _ (Le.rfl' rl2) rl2 (it_fixL' (SqL.of h) q)⟩
    | scr h q => exact .inl ⟨_, rfl, ⟨_, ex_l rl2.ex h⟩, o2 ρ2 B2 H2 _ (Le.rfl' rl2) rl2 (it_fixL' h q)⟩
    | str z => exact .inr (.inr ⟨z, rfl, o2 ρ2 B2 H2 _ (Le.rfl' rl2) rl2 (it_str z)⟩)
    | @ref a n hn =>
      obtain ⟨ob, e1, e2⟩ := rl2.obj n a hn
      unfold srcOf at o2
      simp only [e1] at o2
      cases ob with
      | dct _ => exact o2.elim
      | any => exact o2.elim
      | lst ds =>
        obtain ⟨vs, h1, h2⟩ := e2
        exact .inl ⟨a, rfl, ⟨vs, SqL.of h1⟩, o2 ρ2 B2 H2 _ (Le.rfl' rl2) rl2 (it_own hn)⟩
    | _ => exact o2.elim
def iRng1F (fa : SE) : SI := fun s μ => (fa s μ).bind fun d μ1 => match d with
  | .int j => chk (decide (-(2 ^ 62) ≤ j) && decide (j < 2 ^ 62)) (.ok (.fix (rngL 0 j.toNat)) μ1)
  | _ => .bad
def iRng2F (fa fb : SE) : SI := fun s μ => (fa s μ).bind fun d μ1 => (fb s μ1).bind fun e μ2 => match d, e with
  | .int i, .int j => chk (decide (-(2 ^ 62) ≤ i) && decide (i < 2 ^ 62) && decide (-(2 ^ 62) ≤ j) && decide (j < 2 ^ 62)) (.ok (.fix (rngL i (j - i).toNat)) μ2)
  | _, _ => .bad
theorem ri_rng1 {tg a : Expr} {fa : SE} {p pos : Pos} (hg : Gl X "range") (hm : X.mg "range" = none) (ha : PE X a (lift w W fa)) (hs : starEach [a] X.env = [(false, eval a X.env)] := by rfl) (hs' : starEach [a] X.env = (false, eval a X.env) :: starEach [] X.env := by rfl) : PI X tg (.Call (.Name "range" p) [a] [] pos) (liftI w W (iRng1F fa)) :=
  PI_imp (pi_range1 hg hm (pa_cons ha pa_nil hs') hs) fun σ H R ⟨ρ, B, s, μ, rl, rs, o⟩ =>
    lift_one (R' := fun x H1 => ∃ j : Int, [x] = [V.int j] ∧ -(2 ^ 62) ≤ j ∧ j < 2 ^ 62 ∧ R (Itr 0 j.toNat) H1) rl rs o fun x dx ρ2 B2 H2 μ2 _ rl2 rs2 p o2 => by
      cases p with
      | int j =>
        obtain ⟨hc, o2⟩ := chk_out o2
        simp only [Bool.and_eq_true, decide_eq_true_eq] at hc
        exact ⟨j, rfl, hc.1, hc.2, o2 ρ2 B2 H2 _ (Le.rfl' rl2) rl2 (it_rng 0 j.toNat)⟩
      | _ => exact o2.elim
theorem ri_rng2 {tg a b : Expr} {fa fb : SE} {p pos : Pos} (hg : Gl X "range") (hm : X.mg "range" = none) (ha : PE X a (lift w W fa)) (hb : PE X b (lift w W fb)) (hs : starEach [a, b] X.env = [(false, eval a X.env), (false, eval b X.env)] := by rfl)
    (hs2 : starEach [b] X.env = [(false, eval b X.env)] := by rfl) (h1 : starEach [a, b] X.env = (false, eval a X.env) :: starEach [b] X.env := by rfl) (h2 : starEach [b] X.env = (false, eval b X.env) :: starEach [] X.env := by rfl) : PI X tg (.Call (.Name "range" p) [a, b] [] pos) (liftI w W (iRng2F fa fb)) :=
  PI_imp (pi_range2 hg hm (pa_cons ha (pa_cons hb pa_nil h2) h1) hs hs2) fun σ H R ⟨ρ, B, s, μ, rl, rs, o⟩ =>
    lift_two (R' := fun x y H1 => ∃ i j : Int, [x, y] = [V.int i, V.int j] ∧ (-(2 ^ 62) ≤ i ∧ i < 2 ^ 62 ∧ -(2 ^ 62) ≤ j ∧ j < 2 ^ 62) ∧ R (Itr i (j - i).toNat) H1) rl rs o fun x y dx dy ρ2 B2 H2 μ2 rl2 rs2 p q o2 => by
      cases p with
      | int i =>
        cases q with
        | int j =>
          obtain ⟨hc, o2⟩ := chk_out o2
          simp only [Bool.and_eq_true, decide_eq_true_eq] at hc
          exact ⟨i, j, rfl, ⟨hc.1.1.1, hc.1.1.2, hc.1.2, hc.2⟩, o2 ρ2 B2 H2 _ (Le.rfl' rl2) rl2 (it_rng i (j - i).toNat)⟩
        | _ => exact o2.elim
      | _ => exact o2.elim
/-! zip -/
def zipL : List AD → List AD → List AD
  | a :: r, b :: s => .tup [a, b] :: zipL r s
  | _, _ => []
theorem zipL_get : ∀ (xs ys : List AD) (i : Nat), (zipL xs ys)[i]? = match xs[i]?, ys[i]? with
    | some a, some b => some (.tup [a, b])
    | _, _ => none
  | [], _, i => by simp [zipL]
  | _ :: _, [], i => by
    unfold zipL
    rw [List.getElem?_nil]
    cases i <;> simp
  | a :: r, b :: s, 0 => by simp [zipL]
  | a :: r, b :: s, i + 1 => by
    unfold zipL
    rw [List.getElem?_cons_succ, zipL_get r s i, List.getElem?_cons_succ, List.getElem?_cons_succ]
def fixOf (d : AD) : Option (List AD) := match d with
  | .tup ds => some ds
  | .lst ds => some ds
  | .scr ds => some ds
  | .str z => some (chars (sL z))
  | _ => none
theorem reps_chars {ρ : List Addr} {B : Hp} : ∀ l : List Nat, Reps w ρ B (l.map fun c => V.str ⟨#[c]⟩) (chars l)
  | [] => .nil
  | c :: r => .cons (.str _) (reps_chars r)
theorem fix_kd {ρ : List Addr} {B H : Hp} {μ : Store} {x : V} {d : AD} {ds : List AD} (rl : Rl w ρ B μ H) (p : Rep w ρ B x d) (h : fixOf d = some ds) :
    ∃ vs, Reps w ρ B vs ds ∧ (∃ k, KdOf w.K B x k vs) := by
  cases p with
  | tup s q => cases h; exact ⟨_, q, .t _, s, rfl⟩
  | lst s q => cases h; exact ⟨_, q, .l _, SqL.of s, rfl⟩
  | scr s q => cases h; exact ⟨_, q, .l _, s, rfl⟩
  | str z => cases h; exact ⟨_, reps_chars (sL z), .s z 0, rfl, rfl⟩
  | _ => cases h
theorem kd_ex {K : PySem.W.Frag} {B H : Hp} {x : V} {k : Kd} {vs : List V} (e : Ex B H) (d : KdOf K B x k vs) : KdOf K H x k vs := by
  obtain ⟨q, r⟩ := d
  refine ⟨?_, r⟩
  cases k with
  | l a => exact ex_l e q
  | t a => exact ex_t e q
  | s z tk => exact q
theorem zipL_len : ∀ xs ys : List AD, (zipL xs ys).length = min xs.length ys.length
  | [], ys => by simp [zipL]
  | _ :: _, [] => by simp [zipL]
  | a :: r, b :: s => by
    unfold zipL
    rw [List.length_cons, zipL_len r s, List.length_cons, List.length_cons, Nat.succ_min_succ]
theorem re_sq {K : PySem.W.Frag} {H : Hp} {k : Kd} {t : Tok} {vs : List V} : (k.re t).sq K H vs ↔ k.sq K H vs := by
  cases k <;> exact Iff.rfl
theorem it_zip {ρ : List Addr} {B : Hp} {x y : V} {k1 k2 : Kd} {vs us : List V} {ds es : List AD} (h1 : KdOf w.K B x k1 vs) (h2 : KdOf w.K B y k2 us) (q1 : Reps w ρ B vs ds) (q2 : Reps w ρ B us es) (t1 t2 : Tok) : IterOk w ρ B (ItzA w.K (k1.re t1) (k2.re t2)) (.fix (zipL ds es)) := by
  intro ρ' B' H' μ' i pr ex rl hle
  have a1 : (k1.re t1).sq w.K H' vs := re_sq.mpr (kd_ex rl.ex (kd_ex ex h1)).1
  have a2 : (k2.re t2).sq w.K H' us := re_sq.mpr (kd_ex rl.ex (kd_ex ex h2)).1
  have hle : i ≤ (zipL ds es).length := hle
  rw [zipL_len] at hle
  simp only [Src.at, zipL_get]
  cases e1 : ds[i]? with
  | none =>
    have l1 := List.getElem?_eq_none_iff.mp e1
    exact ⟨vs, us, a1, a2, by rw [q1.length]; omega, by rw [q2.length]; omega, .inl (by rw [q1.length]; omega)⟩
  | some d =>
    cases e2 : es[i]? with
    | none =>
      have l2 := List.getElem?_eq_none_iff.mp e2
      exact ⟨vs, us, a1, a2, by rw [q1.length]; omega, by rw [q2.length]; omega, .inr (by rw [q2.length]; omega)⟩
    | some e =>
      obtain ⟨v, g1, r1⟩ := q1.get e1
      obtain ⟨u, g2, r2⟩ := q2.get e2
      refine ⟨⟨vs, us, v, u, a1, a2, g1, g2⟩, fun z H'' yy => ?_⟩
      obtain ⟨T, c, c', rfl, hT, rfl, f1, f2⟩ := yy
      have := f1 vs a1
      rw [g1] at this; cases this
      have := f2 us a2
      rw [g2] at this; cases this
      obtain ⟨z1, z2⟩ := rl.known (o := .tup [v, u]) hT
      exact ⟨_, z2, z1, .tup (SqT.of upd_same) (.cons ((r1.mono ex pr).mono z2.ex z2.pre) (.cons ((r2.mono ex pr).mono z2.ex z2.pre) .nil))⟩
def iZipF (fa fb : SE) : SI := fun s μ => (fa s μ).bind fun d μ1 => (fb s μ1).bind fun e μ2 => match fixOf d, fixOf e with
  | some xs, some ys => .ok (.fix (zipL xs ys)) μ2
  | _, _ => .bad
theorem ri_zip {a b : Expr} {fa fb : SE} {p pos tpos : Pos} {elts : List Expr} {kk : Nat} (hg : Gl X "zip") (hm : X.mg "zip" = none) (ha : PE X a (lift w W fa)) (hb : PE X b (lift w W fb)) (hK : w.K = X.K := by rfl) (hs : starEach [a, b] X.env = (false, eval a X.env) :: starEach [b] X.env := by rfl) (h2 : starEach [b] X.env = (false, eval b X.env) :: starEach [] X.env := by rfl)
    (hpl : (backTo pos (starEach [b] X.env)).any (·.1) = false := by rfl) : PI X (.Tuple elts kk tpos) (.Call (.Name "zip" p) [a, b] [] pos) (liftI w W (iZipF fa fb)) :=
  PI_imp (pi_zipK hg hm (pa_cons ha (pa_cons hb pa_nil h2) hs) hs hpl) fun σ H R ⟨ρ, B, s, μ, rl, rs, o⟩ =>
    lift_two (R' := fun x y H1 => ∃ x' y', [x, y] = [x', y'] ∧ ∃ k1 xs k2 ys, KdOf X.K H1 x' k1 xs ∧ KdOf X.K H1 y' k2 ys ∧ ∀ t1 t2, R (ItzA X.K (k1.re t1) (k2.re t2)) H1) rl rs o fun x y dx dy ρ2 B2 H2 μ2 rl2 rs2 p q o2 => by
      cases e1 : fixOf dx with
      | none => rw [e1] at o2; exact o2.elim
      | some xs =>
        cases e2 : fixOf dy with
        | none => rw [e1, e2] at o2; exact o2.elim
        | some ys =>
          rw [e1, e2] at o2
          obtain ⟨vs, r1, k1, d1⟩ := fix_kd rl2 p e1
          obtain ⟨us, r2, k2, d2⟩ := fix_kd rl2 q e2
          rw [← hK]
          exact ⟨x, y, rfl, k1, vs, k2, us, kd_ex rl2.ex d1, kd_ex rl2.ex d2, fun t1 t2 => o2 ρ2 B2 H2 _ (Le.rfl' rl2) rl2 (it_zip d1 d2 r1 r2 t1 t2)⟩
end
end SC

set_option Elab.async false
set_option linter.all false
set_option maxRecDepth 100000
set_option maxHeartbeats 2000000
namespace SC
open PySem PySem.Spec PyProof.Rows L2
section
variable {X : Cx} {w : Wo} {W : WX}
/-! ### list comprehensions -/
def wipeS (s : Slots) : List Nat → Slots
  | [] => s
  | v :: vs => (wipeS s vs).set v none
theorem rsl_setN {ρ : List Addr} {B : Hp} : ∀ {σ : L2.St} {s : Slots} (i : Nat) (v : Option V), RSl w ρ B σ s → RSl w ρ B (σ.set i v) (s.set i Option.none)
  | _, _, _, _, .nil => .nil
  | _, _, 0, _, .some _ q => .none q
  | _, _, 0, _, .none q => .none q
  | _, _, i + 1, v, .some p q => .some p (rsl_setN i v q)
  | _, _, i + 1, v, .none q => .none (rsl_setN i v q)
theorem rsl_wipe {ρ : List Addr} {B : Hp} {σ : L2.St} {s : Slots} (rs : RSl w ρ B σ s) : ∀ vs, RSl w ρ B (wipe σ vs) (wipeS s vs)
  | [] => rs
  | v :: vs => rsl_setN v none (rsl_wipe rs vs)
theorem wipe_get {σ : L2.St} : ∀ (vs : List Nat) (j : Nat), j ∉ vs → (wipe σ vs)[j]? = σ[j]?
  | [], _, _ => rfl
  | v :: vs, j, h => by
    unfold wipe
    rw [List.mem_cons, not_or] at h
    rw [List.getElem?_set_ne (Ne.symm h.1), wipe_get vs j h.2]
theorem wipe_in {σ : L2.St} : ∀ (vs : List Nat) (j : Nat), j ∈ vs → j < σ.length → (wipe σ vs)[j]? = some none
  | [], _, h, _ => absurd h (by simp)
  | v :: vs, j, h, hl => by
    unfold wipe
    by_cases e : v = j
    · subst e
      rw [List.getElem?_set_self (by rw [wipe_length]; exact hl)]
    · rw [List.getElem?_set_ne e]
      rcases List.mem_cons.mp h with z | z
      · exact absurd z.symm e
      · exact wipe_in vs j z hl
theorem wipe_alike {σ σ' : L2.St} {vs : List Nat} (hl : σ'.length = σ.length) (h : ∀ j, j ∉ vs → σ'[j]? = σ[j]?) : wipe σ' vs = wipe σ vs := by
  apply List.ext_getElem?
  intro j
  by_cases hj : j ∈ vs
  · by_cases hlt : j < σ.length
    · rw [wipe_in vs j hj hlt, wipe_in vs j hj (by omega)]
    · rw [List.getElem?_eq_none (by rw [wipe_length]; omega), List.getElem?_eq_none (by rw [wipe_length]; omega)]
  · rw [wipe_get vs j hj, wipe_get vs j hj, h j hj]
/-- a target of a comprehension: its names -/
def TgOk (K : PySem.W.Frag) (w : Wo) (vs : List Nat) (g : TG) (gs : AD → Slots → Option Slots) : Prop :=
  ∀ (ρ : List Addr) (B H : Hp) (v : V) (d : AD) (σ : L2.St) (s s' : Slots) (Q : L2.St → Hp → Prop), Ex B H → RSl w ρ B σ s → Rep w ρ B v d → gs d s = some s' →
    (∀ σ2, RSl w ρ B σ2 s' → σ2.length = σ.length → (∀ j, j ∉ vs → σ2[j]? = σ[j]?) → Q σ2 H) → g v σ H Q
def tgN (i : Nat) : AD → Slots → Option Slots := fun d s => some (s.set i (some d))
theorem tg_name {K : PySem.W.Frag} {vs : List Nat} {i : Nat} (hi : i ∈ vs := by decide) : TgOk K w vs (gName i) (tgN i) := by
  intro ρ B H v d σ s s' Q ex rs rp e h
  cases e
  exact h _ (rs.set rp i) (by simp) fun j hj => List.getElem?_set_ne (fun z : i = j => hj (z ▸ hi))
def tgNs : List Nat → List AD → Slots → Option Slots
  | [], [], s => some s
  | i :: is, d :: ds, s => tgNs is ds (s.set i (some d))
  | _, _, _ => none
def tgT (is : List Nat) : AD → Slots → Option Slots := fun d s => match d with
  | .tup ds => tgNs is ds s
  | _ => none
theorem tgNs_ok {ρ : List Addr} {B H : Hp} {vs : List Nat} : ∀ (is : List Nat) (ds : List AD) (us : List V) (σ : L2.St) (s s' : Slots) (Q : L2.St → Hp → Prop), (∀ i ∈ is, i ∈ vs) → Reps w ρ B us ds → RSl w ρ B σ s → tgNs is ds s = some s' →
    (∀ σ2, RSl w ρ B σ2 s' → σ2.length = σ.length → (∀ j, j ∉ vs → σ2[j]? = σ[j]?) → Q σ2 H) → gNamesV is us σ H Q
  | [], [], _, σ, s, s', Q, _, .nil, rs, e, h => by cases e; exact ⟨rfl, h σ rs rfl fun _ _ => rfl⟩
  | [], _ :: _, _, _, _, _, _, _, _, _, e, _ => by simp [tgNs] at e
  | _ :: _, [], _, _, _, _, _, _, _, _, e, _ => by simp [tgNs] at e
  | i :: is, d :: ds, _, σ, s, s', Q, hv, .cons r q, rs, e, h => by
    refine ⟨_, _, rfl, tgNs_ok is ds _ (σ.set i _) (s.set i _) s' Q (fun j hj => hv j (List.mem_cons_of_mem _ hj)) q (rs.set r i) e fun σ2 h1 h2 h3 => h σ2 h1 (by rw [h2]; simp) fun j hj => ?_⟩
    have hne : i ≠ j := fun z => hj (z ▸ hv i (by simp))
    rw [h3 j hj, List.getElem?_set_ne hne]
theorem tgNs_len {is : List Nat} : ∀ {ds : List AD} {s s' : Slots}, tgNs is ds s = some s' → ds.length = is.length := by
  induction is with
  | nil => intro ds s s' e; cases ds with
    | nil => rfl
    | cons _ _ => simp [tgNs] at e
  | cons i is ih => intro ds s s' e; cases ds with
    | nil => simp [tgNs] at e
    | cons d ds => exact congrArg (· + 1) (ih e)
theorem tg_tup {K : PySem.W.Frag} {vs is : List Nat} {n : Nat} (hK : w.K = K) (hn : is.length = n) (hi : ∀ i ∈ is, i ∈ vs := by decide) : TgOk K w vs (gTup K n (gNamesV is)) (tgT is) := by
  intro ρ B H v d σ s s' Q ex rs rp e h
  cases rp with
  | tup a q =>
    rw [hK] at a
    exact ⟨_, _, rfl, ex_t ex a, by rw [q.length, tgNs_len e, hn], tgNs_ok is _ _ σ s s' Q hi q rs e h⟩
  | _ => cases e
/-- one turn -/
def lcStep (gs : AD → Slots → Option Slots) (tt : ST) (fe : SE) (n : Nat) (s : Slots) (d : AD) (μ : Store) (k : Store → R AD) : R AD := match gs d s with
  | none => .bad
  | some s1 => match tt s1 μ with
    | .ok true μ1 => (match fe s1 μ1 with
      | .ok y μ2 => (match μ2[n]? with
        | some (.lst acc) => chk (decide (acc.length < sizeLine)) (k (μ2.set n (.lst (acc ++ [y]))))
        | _ => .bad)
      | _ => .bad)
    | .ok false μ1 => k μ1
    | _ => .bad
def lcL (gs : AD → Slots → Option Slots) (tt : ST) (fe : SE) (n : Nat) (s : Slots) : List AD → Store → R AD
  | [], μ => .ok (.ref n) μ
  | d :: ds, μ => lcStep gs tt fe n s d μ (lcL gs tt fe n s ds)
def lcO (gs : AD → Slots → Option Slots) (tt : ST) (fe : SE) (n : Nat) (s : Slots) (m : Nat) : Nat → Nat → Store → R AD
  | 0, _, _ => .bad
  | k + 1, i, μ => match (Src.own m).at μ i with
    | none => .bad
    | some none => .ok (.ref n) μ
    | some (some d) => lcStep gs tt fe n s d μ (lcO gs tt fe n s m k (i + 1))
def eLc (fi : SI) (vs : List Nat) (gs : AD → Slots → Option Slots) (tt : ST) (fe : SE) : SE := fun s μ => (fi s μ).bind fun r μ1 => match r with
  | .fix ds => lcL gs tt fe μ1.length (wipeS s vs) ds (μ1 ++ [.lst []])
  | .own m => lcO gs tt fe μ1.length (wipeS s vs) m fuel 0 (μ1 ++ [.lst []])
abbrev WN : WX := fun _ _ _ _ => False
/-- an element's reading, where something is known of the names -/
def teA (w : Wo) (A : L2.St → Prop) (fe : SE) : TE := fun σ2 H Q => A σ2 ∧ lift w WN fe σ2 H Q
theorem lcStep_ok {gs : AD → Slots → Option Slots} {tt : ST} {fe : SE} {n : Nat} {vs : List Nat} {g : TG} {σ : L2.St} {s : Slots} {d : AD} {μ : Store} {k : Store → R AD} {Wf : Value → Option Addr → Hp → Prop} {Q : VK} {D : Addr} {ρ : List Addr} {B H : Hp} {v : V} {N : Hp → Prop} {A : L2.St → Prop} (hA : ∀ σ2, wipe σ2 vs = wipe σ vs → A σ2) (hT : TgOk w.K w vs g gs)
    (rl : Rl w ρ B μ H) (rs : RSl w ρ B (wipe σ vs) s) (hD : ρ[n]? = some D) (rp : Rep w ρ B v d) (o : Out w Wf (PV w) ρ B H (lcStep gs tt fe n s d μ k) Q)
    (hN : ∀ ρ' B' H' μ', Le ρ B H ρ' B' H' → Rl w ρ' B' μ' H' → Out w Wf (PV w) ρ' B' H' (k μ') Q → N H') :
    g v (wipe σ vs) H fun σ2 H2 => wipe σ2 vs = wipe σ vs ∧ liftT w WN tt σ2 H2 fun b H3 => if b = true then teA w A fe σ2 H3 fun y H4 => ∃ acc, H4 D = some (.lst acc) ∧ acc.length < sizeLine ∧ N (upd H4 D (.lst (acc ++ [y]))) else N H3 := by
  unfold lcStep at o
  cases e : gs d s with
  | none => rw [e] at o; exact o.elim
  | some s1 =>
    rw [e] at o
    simp only at o
    refine hT ρ B H v d (wipe σ vs) s s1 _ rl.ex rs rp e fun σ2 rs2 hl hw => ⟨?_, ρ, B, s1, μ, rl, rs2, ?_⟩
    · refine wipe_alike (by rw [hl, wipe_length]) fun j hj => ?_
      rw [hw j hj, wipe_get vs j hj]
    · cases e2 : tt s1 μ with
      | exc c x μ1 => rw [e2] at o; exact o.elim
      | bad => rw [e2] at o; exact o.elim
      | ok b μ1 =>
        rw [e2] at o
        intro ρ2 B2 H2 b' l2 rl2 eb
        have eb : b' = b := eb
        subst eb
        cases b' with
        | false => exact hN ρ2 B2 H2 μ1 l2 rl2 (Out.step l2 o)
        | true =>
          rw [if_pos rfl]
          refine ⟨hA σ2 (wipe_alike (by rw [hl, wipe_length]) fun j hj => by rw [hw j hj, wipe_get vs j hj]), ρ2, B2, s1, μ1, rl2, rs2.le l2, ?_⟩
          simp only at o
          cases e3 : fe s1 μ1 with
          | exc c x μ2 => rw [e3] at o; exact o.elim
          | bad => rw [e3] at o; exact o.elim
          | ok y μ2 =>
            rw [e3] at o
            simp only at o
            intro ρ3 B3 H3 vy l3 rl3 ry
            have hD3 : ρ3[n]? = some D := l3.pre.get (l2.pre.get hD)
            obtain ⟨ob, f1, f2⟩ := rl3.obj n D hD3
            rw [f1] at o
            cases ob with
            | dct _ => exact o.elim
            | any => exact o.elim
            | lst acc =>
              simp only at o
              obtain ⟨hc, o⟩ := chk_out o
              obtain ⟨us, g1, g2⟩ := f2
              refine ⟨us, g1, by rw [g2.length]; exact of_decide_eq_true hc, ?_⟩
              obtain ⟨w1, w2⟩ := rl3.write (ao := .lst (acc ++ [y])) (o := .lst (us ++ [vy])) hD3 ⟨_, upd_same, g2.append (.cons ry .nil)⟩
              exact hN ρ3 B3 _ _ ((l2.trans l3).trans w2) w1 (Out.step ((l2.trans l3).trans w2) o)
theorem lift_lc {own : List (Str × Nat)} {fi : SI} {g : TG} {gs : AD → Slots → Option Slots} {tt : ST} {fe : SE} (hT : TgOk w.K w (own.map (·.2)) g gs) {σ : L2.St} {H : Hp} {Q : VK} {A : L2.St → Prop} (hA : ∀ σ2, wipe σ2 (own.map (·.2)) = wipe σ (own.map (·.2)) → A σ2) (hq : lift w W (eLc fi (own.map (·.2)) gs tt fe) σ H Q) :
    tLc (liftI w W fi) g (liftT w WN tt) (teA w A fe) (own.map (·.2)) σ H Q := by
    obtain ⟨ρ, B, s, μ, rl, rs, o⟩ := hq
    unfold eLc at o
    refine ⟨ρ, B, s, μ, rl, rs, ?_⟩
    cases e : fi s μ with
    | exc c d μ1 => rw [e] at o; exact o
    | bad => rw [e] at o; exact o.elim
    | ok r μ1 =>
      rw [e] at o
      intro ρ1 B1 H1 J l1 rl1 ij D hD
      obtain ⟨d1, d2⟩ := rl1.own (ao := .lst []) (o := .lst []) hD ⟨[], upd_same, .nil⟩
      have hn : (ρ1 ++ [D])[μ1.length]? = some D := by rw [← rl1.len]; simp
      have rs1 := rsl_wipe ((rs.le l1).le d2) (own.map (·.2))
      have o := Out.step (l1.trans d2) o
      cases r with
      | fix ds =>
        simp only [R.bind] at o
        refine ⟨fun i m H' => ∃ ρ' B' μ', Pre (ρ1 ++ [D]) ρ' ∧ Ex B1 B' ∧ Rl w ρ' B' μ' H' ∧ Out w (fun c d H' => W c d σ H') (PV w) ρ' B' H' (lcL gs tt fe μ1.length (wipeS s (own.map (·.2))) (ds.drop i) μ') Q ∧ m = ds.length - i ∧ i ≤ ds.length, ⟨ds.length, ρ1 ++ [D], B1, _, Pre.rfl' _, fun _ _ h => h, d1, by simpa using o, by simp, Nat.zero_le _⟩, ?_⟩
        rintro i m H' ⟨ρ', B', μ', pr, ex, rl', o', rfl, hi⟩
        have q := ij ρ' B' H' μ' i (d2.pre.trans pr) ex rl' hi
        by_cases hl : i < ds.length
        · have ei : ds[i]? = some ds[i] := List.getElem?_eq_getElem hl
          have ed : ds.drop i = ds[i] :: ds.drop (i + 1) := List.drop_eq_getElem_cons hl
          rw [ed] at o'
          simp only [Src.at, ei] at q
          refine .inr ⟨q.1, fun H2 => ∃ ρ2 B2 μ2, Pre (ρ1 ++ [D]) ρ2 ∧ Ex B1 B2 ∧ Rl w ρ2 B2 μ2 H2 ∧ Out w (fun c d H' => W c d σ H') (PV w) ρ2 B2 H2 (lcL gs tt fe μ1.length (wipeS s (own.map (·.2))) (ds.drop (i + 1)) μ2) Q, fun H2 ⟨ρ2, B2, μ2, a1, a2, a3, a4⟩ => ⟨ds.length - (i + 1), by omega, ρ2, B2, μ2, a1, a2, a3, a4, rfl, hl⟩, fun x H2 y => ?_⟩
          obtain ⟨B2, l2, rl2, rp⟩ := q.2 x H2 y
          exact lcStep_ok (n := μ1.length) (D := D) hA hT rl2 ((rs1.mono ex pr).le l2) (pr.get hn) rp (Out.step l2 o') fun ρ3 B3 H3 μ3 l3 rl3 o3 => ⟨ρ3, B3, μ3, pr.trans l3.pre, fun a u h => l3.ex a u (l2.ex a u (ex a u h)), rl3, o3⟩
        · have en : ds[i]? = none := List.getElem?_eq_none_iff.mpr (by omega)
          have ed : ds.drop i = [] := List.drop_eq_nil_iff.mpr (by omega)
          rw [ed] at o'
          simp only [Src.at, en] at q
          exact .inl ⟨q, out_now rl' (.ref (pr.get hn)) o'⟩
      | own n =>
        simp only [R.bind] at o
        refine ⟨fun i m H' => ∃ ρ' B' μ', Pre (ρ1 ++ [D]) ρ' ∧ Ex B1 B' ∧ Rl w ρ' B' μ' H' ∧ Out w (fun c d H' => W c d σ H') (PV w) ρ' B' H' (lcO gs tt fe μ1.length (wipeS s (own.map (·.2))) n m i μ') Q, ⟨fuel, ρ1 ++ [D], B1, _, Pre.rfl' _, fun _ _ h => h, d1, o⟩, ?_⟩
        rintro i m H' ⟨ρ', B', μ', pr, ex, rl', o'⟩
        have q := ij ρ' B' H' μ' i (d2.pre.trans pr) ex rl' trivial
        cases m with
        | zero => exact o'.elim
        | succ k =>
          unfold lcO at o'
          cases ea : (Src.own n).at μ' i with
          | none => rw [ea] at o'; exact o'.elim
          | some u =>
            rw [ea] at o' q
            cases u with
            | none => exact .inl ⟨q, out_now rl' (.ref (pr.get hn)) o'⟩
            | some d =>
              refine .inr ⟨q.1, fun H2 => ∃ ρ2 B2 μ2, Pre (ρ1 ++ [D]) ρ2 ∧ Ex B1 B2 ∧ Rl w ρ2 B2 μ2 H2 ∧ Out w (fun c d H' => W c d σ H') (PV w) ρ2 B2 H2 (lcO gs tt fe μ1.length (wipeS s (own.map (·.2))) n k (i + 1) μ2) Q, fun H2 ⟨ρ2, B2, μ2, a1, a2, a3, a4⟩ => ⟨k, by omega, ρ2, B2, μ2, a1, a2, a3, a4⟩, fun x H2 y => ?_⟩
              obtain ⟨B2, l2, rl2, rp⟩ := q.2 x H2 y
              exact lcStep_ok (n := μ1.length) (D := D) hA hT rl2 ((rs1.mono ex pr).le l2) (pr.get hn) rp (Out.step l2 o') fun ρ3 B3 H3 μ3 l3 rl3 o3 => ⟨ρ3, B3, μ3, pr.trans l3.pre, fun a u h => l3.ex a u (l2.ex a u (ex a u h)), rl3, o3⟩
theorem r_lc {elt tg iter : Expr} {ifs : List Expr} {scope : Scope} {own : List (Str × Nat)} {pos : Pos} {fi : SI} {g : TG} {gs : AD → Slots → Option Slots} {tt : ST} {fe : SE} (hc : X.calm = true) (hN : X.N.Nodup) (hi : PI X tg iter (liftI w W fi)) (ok : BlkOk X.N X.env.scope scope own)
    (hT : TgOk w.K w (own.map (·.2)) g gs) (hg : ∀ (s : Shared) (H : Hp) (C : Addr) (cl : List (Str × Addr)) (fp : List Addr), PG (X.blk s H scope (compEnvC scope cl C X.env) fp) tg g) (ht : ∀ (s : Shared) (H : Hp) (C : Addr) (cl : List (Str × Addr)) (fp : List Addr), PTs (X.blk s H scope (compEnvC scope cl C X.env) fp) ifs (liftT w WN tt))
    (he : ∀ (s : Shared) (H : Hp) (C : Addr) (cl : List (Str × Addr)) (fp : List Addr), PE (X.blk s H scope (compEnvC scope cl C X.env) fp) elt (lift w WN fe)) (hs : ∀ x, foldedSetIterable iter X.env x = pure x := by intro _; rfl) :
    PE X (.ListComp elt [⟨tg, iter, ifs, 0⟩] scope pos) (lift w W (eLc fi (own.map (·.2)) gs tt fe)) :=
  PE_imp (pe_lc hc hN hi ok hg ht (fun s H C cl fp => PE_imp (t' := teA w (fun _ => True) fe) (he s H C cl fp) fun _ _ _ h => h.2) hs) fun σ H Q hq => lift_lc hT (fun _ _ => trivial) hq
/-- x = [..], where the comprehension's value is stored at once -/
theorem rs_setLc {i : Nat} {y : Str} {py : Pos} {elt tg iter : Expr} {ifs : List Expr} {scope : Scope} {own : List (Str × Nat)} {pos spos : Pos} {fi : SI} {g : TG} {gs : AD → Slots → Option Slots} {tt : ST} {fe : SE} (hc : X.calm = true) (hN : X.N.Nodup) (hi : PI X tg iter (liftI w W fi)) (ok : BlkOk X.N X.env.scope scope own)
    (hT : TgOk w.K w (own.map (·.2)) g gs) (hg : ∀ (s : Shared) (H : Hp) (C : Addr) (cl : List (Str × Addr)) (fp : List Addr), PG (X.blk s H scope (compEnvC scope cl C X.env) fp) tg g) (ht : ∀ (s : Shared) (H : Hp) (C : Addr) (cl : List (Str × Addr)) (fp : List Addr), PTs (X.blk s H scope (compEnvC scope cl C X.env) fp) ifs (liftT w WN tt))
    (he : ∀ (s : Shared) (H : Hp) (C : Addr) (cl : List (Str × Addr)) (fp : List Addr), PE (X.blk s H scope (compEnvC scope cl C X.env) fp) elt (lift w WN fe)) (hy : X.N[i]? = some y := by rfl) (hyl : X.env.scope.names.lookup y = some .local := by rfl) (hsw : swapsWith (.ListComp elt [⟨tg, iter, ifs, 0⟩] scope pos) (some (.Name y py)) spos.line X.env = pure true := by rfl)
    (hs : ∀ x, foldedSetIterable iter X.env x = pure x := by intro _; rfl) : PS X (.Assign [.Name y py] (.ListComp elt [⟨tg, iter, ifs, 0⟩] scope pos) spos) (liftS w W (sSet i (eLc fi (own.map (·.2)) gs tt fe))) :=
  PS_imp (ps_setLc hc hN hy hyl hsw hi ok hg ht (fun s H C cl fp => PE_imp (t' := teA w (fun _ => True) fe) (he s H C cl fp) fun _ _ _ h => h.2) hs) fun D σ H ⟨ρ, B, s, μ, rl, rs, o⟩ => lift_lc (Q := fun x H1 => gName i x σ H1 D.nx) hT (fun _ _ => trivial) (liftS_e rl rs o fun x d ρ1 B1 H1 μ1 rl1 rs1 p1 o1 => o1 ρ1 B1 H1 _ (Le.rfl' rl1) rl1 (RSl.set p1 i rs1))
def tYesF : ST := fun _ μ => .ok true μ
theorem rts_nil {Y : Cx} : PTs Y [] (liftT w W tYesF) := ⟨fun pins s σ H Q I ⟨ρ, B, s', μ, rl, rs, o⟩ => pts_nil.run pins s σ H Q I (o ρ B H true (Le.rfl' rl) rl rfl)⟩
theorem rts_one {Y : Cx} {c : Expr} {t : ST} (h : PT Y c (liftT w W t)) : PTs Y [c] (liftT w W t) := pts_one h
/-! ### what is not done -/
def eBad : SE := fun _ _ => .bad
def sBad : SS := fun _ _ => .bad
theorem r_bad {e : Expr} : PE X e (lift w W eBad) := ⟨fun pins s σ H Q I ⟨ρ, B, s', μ, rl, rs, o⟩ => o.elim⟩
theorem rs_bad {st : Stmt} : PS X st (liftS w W sBad) := ⟨fun pins s σ H D I ⟨ρ, B, s', μ, rl, rs, o⟩ => o.elim⟩
theorem rss_bad {st : List Stmt} : PSs X st (liftS w W sBad) := ⟨fun pins s σ H D I ⟨ρ, B, s', μ, rl, rs, o⟩ => o.elim⟩
end
end SC

set_option Elab.async false
set_option linter.all false
set_option maxRecDepth 100000
set_option maxHeartbeats 2000000
namespace SC
open PySem PySem.Spec PyProof.Rows L2
section
variable {X : Cx} {w : Wo} {W : WX}
/-! ### sorted -/
def insL (x : List Nat) : List (List Nat) → List (List Nat)
  | [] => [x]
  | y :: r => if ltL y x then y :: insL x r else x :: y :: r
def sortL : List (List Nat) → List (List Nat)
  | [] => []
  | x :: r => insL x (sortL r)
def leL (a b : List Nat) : Prop := ltL b a = false
theorem ltL_total (a b : List Nat) (h : ltL b a = true) : ltL a b = false := by
  cases e : ltL a b with
  | false => rfl
  | true =>
    rw [ltL_iff] at h e
    exact absurd (List.lt_trans e h) (List.lt_irrefl _)
theorem leL_trans {a b c : List Nat} (h1 : leL a b) (h2 : leL b c) : leL a c := by
  unfold leL at *
  rw [← Bool.not_eq_true, ltL_iff] at h1 h2 ⊢
  exact List.not_lt.mpr (List.le_trans (List.not_lt.mp h1) (List.not_lt.mp h2))
theorem leL_anti {a b : List Nat} (h1 : leL a b) (h2 : leL b a) : a = b := by
  unfold leL at *
  rw [← Bool.not_eq_true, ltL_iff] at h1 h2
  exact List.le_antisymm (List.not_lt.mp h1) (List.not_lt.mp h2)
theorem insL_perm (x : List Nat) : ∀ l, (insL x l).Perm (x :: l)
  | [] => .refl _
  | y :: r => by
    unfold insL
    split
    · exact ((insL_perm x r).cons y).trans (.swap ..)
    · exact .refl _
theorem sortL_perm : ∀ l, (sortL l).Perm l
  | [] => .refl _
  | x :: r => (insL_perm x (sortL r)).trans ((sortL_perm r).cons x)
theorem insL_pw (x : List Nat) : ∀ l, l.Pairwise leL → (insL x l).Pairwise leL
  | [], _ => by simp [insL]
  | y :: r, h => by
    unfold insL
    rw [List.pairwise_cons] at h
    split
    · rename_i hl
      rw [List.pairwise_cons]
      refine ⟨fun z hz => ?_, insL_pw x r h.2⟩
      rcases List.mem_cons.mp ((insL_perm x r).mem_iff.mp hz) with rfl | hz
      · exact ltL_total _ _ hl
      · exact h.1 z hz
    · rename_i hl
      have hxy : leL x y := by simpa [leL] using hl
      rw [List.pairwise_cons, List.pairwise_cons]
      refine ⟨fun z hz => ?_, h⟩
      rcases List.mem_cons.mp hz with rfl | hz
      · exact hxy
      · exact leL_trans hxy (h.1 z hz)
theorem sortL_pw : ∀ l, (sortL l).Pairwise leL
  | [] => .nil
  | x :: r => insL_pw x _ (sortL_pw r)
theorem sorted_uniq {ys xs : List Str} (hp : ys.Perm xs) (hs : sortedS ys = true) : ys = (sortL (xs.map sL)).map lS := by
  have pw : (ys.map sL).Pairwise leL := by
    rw [List.pairwise_map]
    have key : ∀ (l : List Str), sortedS l = true → l.Pairwise (fun a b => ltL (sL b) (sL a) = false) := by
      have step : ∀ (l : List Str) (p : Str), risingS p l = true → (p :: l).Pairwise (fun a b => ltL (sL b) (sL a) = false) := by
        intro l
        induction l with
        | nil => intro p _; simp
        | cons x r ih =>
          intro p h
          unfold risingS at h
          rw [Bool.and_eq_true] at h
          have h1 : leL (sL p) (sL x) := by
            have := h.1
            rw [ltCps_eq, ltL_dec] at this
            unfold leL sL
            simpa using this
          have h2 := ih x h.2
          rw [List.pairwise_cons]
          refine ⟨fun z hz => ?_, h2⟩
          rcases List.mem_cons.mp hz with rfl | hz
          · exact h1
          · exact leL_trans h1 ((List.pairwise_cons.mp h2).1 z hz)
      intro l h
      cases l with
      | nil => exact .nil
      | cons x r => exact step r x h
    exact key ys hs
  have pm : (ys.map sL).Perm (sortL (xs.map sL)) := (hp.map sL).trans (sortL_perm _).symm
  have := pm.eq_of_pairwise (fun a b _ _ h1 h2 => leL_anti h1 h2) pw (sortL_pw _)
  have e : ys = (ys.map sL).map lS := by
    rw [List.map_map]
    have : (lS ∘ sL) = id := by funext z; exact lS_sL z
    rw [this, List.map_id]
  rw [e, this]
def rSortA (K : PySem.W.Frag) : List V → Hp → VK → Prop := fun vs H Q => ∃ (a : Addr) (xs : List Str), vs = [V.ref a] ∧ SqL K H a (xs.map V.str) ∧ ∀ (ys : List Str) (p : Addr), ys.Perm xs → sortedS ys = true → H p = none → Q (.ref p) (upd H p (.lst (ys.map V.str)))
theorem cr_sortA : CallR X (.builtin "sorted") (rSortA X.K) := by
  intro pins s σ H vs us Q I r h
  obtain ⟨a, xs, rfl, hs, q⟩ := h
  obtain ⟨its, rv, hl, hz⟩ := I.list hs
  rw [Vals.ref1 r]
  refine PyProof.Rows.sorted_strsAny hl.isList rv.strs (by rw [← rv.length]; exact hz) fun out ys h1 h2 h3 => ?_
  obtain ⟨ep, he'⟩ := PyProof.Rows.sortedAll_at s.heap its out
  have hlen : (ys.map V.str).length ≤ sizeLine := by rw [List.length_map, h2.length_eq]; rw [List.length_map] at hz; exact hz
  exact ⟨.ref _, upd H (s.heap.objs.size + 1) (.lst (ys.map V.str)), I.laid (t' := s.toks) (fun _ _ => PyProof.Rows.sortedAll_old) (Nat.le_succ _) ⟨hlen, out.toList, ep, vals_of_strs h1, he'⟩, rfl, q ys _ h2 h3 (I.hok.fresh (Nat.le_succ _))⟩
def gSorted : AD → Store → R AD := fun x μ => match lstD μ x with
  | some ds => (match strsA ds with
    | some l => .ok (.ref μ.length) (μ ++ [.lst ((sortL (l.map sL)).map fun z => .str (lS z))])
    | none => .bad)
  | none => .bad
theorem s_sorted : CallS w (rSortA w.K) (b1 gSorted) := call1 fun W v d ρ B H μ Q rl p o => by
  unfold gSorted at o
  cases e : lstD μ d with
  | none => rw [e] at o; exact o.elim
  | some ds =>
    rw [e] at o
    simp only at o
    obtain ⟨a, vs, rfl, h1, h2⟩ := lstD_ok rl p e
    cases e2 : strsA ds with
    | none => rw [e2] at o; exact o.elim
    | some l =>
      rw [e2] at o
      obtain ⟨k1, _⟩ := strsA_ok h2 e2
      subst k1
      refine ⟨a, l, rfl, h1, fun ys q hp hs hq => ?_⟩
      have e3 := sorted_uniq hp hs
      have e4 : ys.map AD.str = (sortL (l.map sL)).map fun z => .str (lS z) := by rw [e3, List.map_map]; rfl
      exact own_lst rl (reps_str ys) hq (by rw [e4]; exact o)
/-! ### isinstance -/
def nmC : Nat → String
  | 0 => "NoneType" | 1 => "bool" | 2 => "int" | 3 => "str" | 4 => "tuple" | 5 => "list" | _ => "dict"
def tyC (μ : Store) : AD → Option Nat
  | .non => some 0 | .bl _ => some 1 | .int _ => some 2 | .str _ => some 3 | .tup _ => some 4 | .lst _ => some 5 | .scr _ => some 5
  | .ref n => match μ[n]? with
    | some (.lst _) => some 5
    | _ => none
  | _ => none
def isTy (a t : Nat) : Bool := Nat.beq a t || (Nat.beq a 1 && Nat.beq t 2)
theorem tyC_ok {ρ : List Addr} {B H : Hp} {μ : Store} {v : V} {d : AD} {n : Nat} (rl : Rl w ρ B μ H) (p : Rep w ρ B v d) (h : tyC μ d = some n) : TyX w.K H v (.type (nmC n)) ∧ n ≤ 5 := by
  have list : ∀ {a vs}, SqL w.K H a vs → TyX w.K H (.ref a) (.type "list") := fun {a vs} s => by
    rcases s with (s | ⟨o, s⟩) | ⟨o, its, k, e, c, _⟩
    · exact .base (.lst s)
    · exact .base (.frz s)
    · exact .kList e c
  cases p with
  | non => cases h; exact ⟨.base .non, by decide⟩
  | bl b => cases h; exact ⟨.base (.bl b), by decide⟩
  | int b => cases h; exact ⟨.base (.int b), by decide⟩
  | str b => cases h; exact ⟨.base (.str b), by decide⟩
  | tup s q =>
    cases h
    refine ⟨?_, by decide⟩
    rcases ex_t rl.ex s with (s | ⟨o, s⟩) | ⟨o, its, k, e, c, _⟩
    · exact .base (.tup s)
    · exact .fTuple s
    · exact .kTuple e c
  | lst s q => cases h; exact ⟨list (SqL.of (rl.ex _ _ s)), by decide⟩
  | scr s q => cases h; exact ⟨list (ex_l rl.ex s), by decide⟩
  | @ref a m hm =>
    obtain ⟨o, e1, e2⟩ := rl.obj m a hm
    unfold tyC at h
    simp only [e1] at h
    cases o with
    | lst ds => cases h; obtain ⟨vs, h1, _⟩ := e2; exact ⟨list (SqL.of h1), by decide⟩
    | dct _ => cases h
    | any => cases h
  | _ => cases h
theorem kit_is {K : PySem.W.Frag} {a t : Nat} (ha : a ≤ 5) (ht : 1 ≤ t ∧ t ≤ 5) : PySem.W.kitOne K (.type (nmC a)) (.type (nmC t)) = some (isTy a t) := by
  obtain ⟨h1, h2⟩ := ht
  match a, t, ha, h1, h2 with
  | 0, 1, _, _, _ => rfl
  | 0, 2, _, _, _ => rfl
  | 0, 3, _, _, _ => rfl
  | 0, 4, _, _, _ => rfl
  | 0, 5, _, _, _ => rfl
  | 1, 1, _, _, _ => rfl
  | 1, 2, _, _, _ => rfl
  | 1, 3, _, _, _ => rfl
  | 1, 4, _, _, _ => rfl
  | 1, 5, _, _, _ => rfl
  | 2, 1, _, _, _ => rfl
  | 2, 2, _, _, _ => rfl
  | 2, 3, _, _, _ => rfl
  | 2, 4, _, _, _ => rfl
  | 2, 5, _, _, _ => rfl
  | 3, 1, _, _, _ => rfl
  | 3, 2, _, _, _ => rfl
  | 3, 3, _, _, _ => rfl
  | 3, 4, _, _, _ => rfl
  | 3, 5, _, _, _ => rfl
  | 4, 1, _, _, _ => rfl
  | 4, 2, _, _, _ => rfl
  | 4, 3, _, _, _ => rfl
  | 4, 4, _, _, _ => rfl
  | 4, 5, _, _, _ => rfl
  | 5, 1, _, _, _ => rfl
  | 5, 2, _, _, _ => rfl
  | 5, 3, _, _, _ => rfl
  | 5, 4, _, _, _ => rfl
  | 5, 5, _, _, _ => rfl
def uIsi (t : Nat) : AD → Store → R AD := fun x μ => match tyC μ x with
  | some a => .ok (.bl (isTy a t)) μ
  | none => .bad
theorem r_isi {t : Nat} {a : Expr} {x T : Str} {fa : SE} {p p2 pos : Pos} (ht : 1 ≤ t ∧ t ≤ 5) (hg : Gl X x) (hm : X.mg x = none) (hv : bootBuiltins x = some (.builtin "isinstance")) (gT : Gl X T) (mT : X.mg T = none) (vT : bootBuiltins T = some (.type (nmC t))) (ha : PE X a (lift w W fa)) (hK : w.K = X.K := by rfl)
    (nT : T ≠ "__name__" := by decide) (dT : (T == ("__debug__" : Str)) = false := by decide) (hn : x ≠ "__name__" := by decide) (hdb : (x == ("__debug__" : Str)) = false := by decide)
    (h1 : starEach [a, .Name T p2] X.env = (false, eval a X.env) :: starEach [.Name T p2] X.env := by rfl) (h2 : starEach [.Name T p2] X.env = (false, eval (.Name T p2) X.env) :: starEach [] X.env := by rfl) (hpl : (backTo pos (starEach [.Name T p2] X.env)).any (·.1) = false := by rfl) :
    PE X (.Call (.Name x p) [a, .Name T p2] [] pos) (lift w W (eUn (uIsi t) fa)) :=
  PE_imp (pe_callB call_isi hg hm hv (pa_cons ha (pa_cons (pe_bltn gT mT vT (v := .ty (nmC t)) rfl nT dT) pa_nil h2) h1) hn hdb h1 hpl) fun σ H Q ⟨ρ, B, s, μ, rl, rs, o⟩ => by
    refine lift_one (R' := fun x H1 => rIsi X.K [x, .ty (nmC t)] H1 Q) rl rs o fun x dx ρ2 B2 H2 μ2 _ rl2 rs2 p o2 => ?_
    unfold uIsi at o2
    cases e : tyC μ2 dx with
    | none => rw [e] at o2; exact o2.elim
    | some n =>
      rw [e] at o2
      obtain ⟨k1, k2⟩ := tyC_ok rl2 p e
      rw [← hK]
      exact ⟨x, _, _, _, _, rfl, .ty _, k1, kit_is k2 ht, out_now rl2 (.bl _) o2⟩
/-! ### list(range(..)) -/
theorem rgV_rngL (a : Int) : ∀ n : Nat, (List.range n).map (fun i => AD.int (a + (i : Nat))) = rngL a n := fun n => by
  apply List.ext_getElem?
  intro i
  rw [rngL_get, List.getElem?_map]
  by_cases h : i < n
  · rw [if_pos h, List.getElem?_range h]; rfl
  · rw [if_neg h, List.getElem?_eq_none (by rw [List.length_range]; omega)]; rfl
def eLr1 (fa : SE) : SE := fun s μ => (fa s μ).bind fun d μ1 => match d with
  | .int j => chk (decide (-(2 ^ 62) ≤ j) && decide (j ≤ 16777216)) (.ok (.ref μ1.length) (μ1 ++ [.lst (rngL 0 j.toNat)]))
  | _ => .bad
theorem r_lr1 {a : Expr} {fa : SE} {p q pos pos2 : Pos} (hc : X.calm = true) (hg : Gl X "list") (hm : X.mg "list" = none) (hg2 : Gl X "range") (hm2 : X.mg "range" = none) (ha : PE X a (lift w W fa)) (na : starEach [a] X.env = (false, eval a X.env) :: starEach [] X.env := by rfl)
    (nb : starEach [Expr.Call (.Name "range" q) [a] [] pos2] X.env = (false, eval (.Call (.Name "range" q) [a] [] pos2) X.env) :: starEach [] X.env := by rfl) : PE X (.Call (.Name "list" p) [.Call (.Name "range" q) [a] [] pos2] [] pos) (lift w W (eLr1 fa)) :=
  PE_imp (pe_listRg hc hg hm (prg_1 hg2 hm2 ha na) nb) fun σ H Q ⟨ρ, B, s, μ, rl, rs, o⟩ =>
    lift_one (R' := fun x H1 => ∃ n, x = .int n ∧ RgOk 0 n ∧ ∀ q, H1 q = none → Q (.ref q) (upd H1 q (.lst (rgV 0 n)))) rl rs o fun x dx ρ2 B2 H2 μ2 _ rl2 rs2 p o2 => by
      cases p with
      | int j =>
        obtain ⟨hc, o2⟩ := chk_out o2
        simp only [Bool.and_eq_true, decide_eq_true_eq] at hc
        refine ⟨j, rfl, ⟨by decide, by decide, hc.1, by omega, by omega⟩, fun q hq => ?_⟩
        refine own_lst (ds := rngL 0 j.toNat) rl2 ?_ hq o2
        rw [← rgV_rngL]
        unfold rgV
        rw [Int.sub_zero]
        generalize List.range j.toNat = l
        induction l with
        | nil => exact .nil
        | cons i r ih => exact .cons (.int _) ih
      | _ => exact o2.elim
/-! ### methods -/
def isLst (μ : Store) (d : AD) : Bool := match lstD μ d with
  | some _ => true
  | none => false
def eBm (ty : AD → Store → Bool) (g : AD → List AD → Store → R AD) (fo : SE) (fa : SA) : SE := fun s μ => (fo s μ).bind fun x μ1 => chk (ty x μ1) ((fa s μ1).bind fun ds μ2 => g x ds μ2)
def BmS (w : Wo) (T : String) (r : V → List V → Hp → VK → Prop) (ty : AD → Store → Bool) (g : AD → List AD → Store → R AD) : Prop :=
  (∀ ρ B H μ x dx, Rl w ρ B μ H → Rep w ρ B x dx → ty dx μ = true → tyV w.K T x H) ∧
    ∀ (W : Value → Option Addr → Hp → Prop) x dx xs ds ρ B H μ Q, Rl w ρ B μ H → Rep w ρ B x dx → Reps w ρ B xs ds → Out w W (PV w) ρ B H (g dx ds μ) Q → r x xs H Q
theorem r_bm {T id : String} {r : V → List V → Hp → VK → Prop} {ty : AD → Store → Bool} {g : AD → List AD → Store → R AD} {o e : Expr} {es : List Expr} {fo : SE} {fa : SA} {name : Str} {apos cpos : Pos} (hg : BmS w T r ty g) (pa : PlainAttrs T) (slot : Slot T name id) (hty : typeOf (.builtin id) = pure (.type "method_descriptor")) (hm : MtR X id r) (ho : PE X o (lift w W fo)) (ha : PA X (e :: es) (liftA w W fa)) (hK : w.K = X.K := by rfl)
    (hbase : attributeBase o name X.env (eval o X.env) = eval o X.env := by rfl)
    (hfew : ((backTo cpos (starEach (e :: es) X.env)).all (fun x => !x.1) && (backToKw cpos (keywordEach [] X.env)).all (fun x => x.1.isSome)
      && decide ((e :: es).length + ([] : List Keyword).length + (if ([] : List Keyword).isEmpty then 0 else 1) < 30)) = true := by rfl)
    (hline : (apos.endLine == cpos.line) = true := by rfl) (hs : starEach (e :: es) X.env = (false, eval e X.env) :: starEach es X.env := by rfl) (hplain : (backTo cpos (starEach es X.env)).any (·.1) = false := by rfl) :
    PE X (.Call (.Attribute o name apos) (e :: es) [] cpos) (lift w W (eBm ty g fo fa)) :=
  PE_imp (pe_bm pa slot hty hm ho ha hbase hfew hline hs hplain) fun σ H Q ⟨ρ, B, s, μ, rl, rs, o⟩ =>
    lift_one (R' := fun x H1 => tyV X.K T x H1 ∧ liftA w W fa σ H1 fun xs H2 => r x xs H2 Q) rl rs o fun x dx ρ2 B2 H2 μ2 _ rl2 rs2 p o2 => by
      obtain ⟨hc, o2⟩ := chk_out o2
      refine ⟨by rw [← hK]; exact hg.1 _ _ _ _ _ _ rl2 p hc, liftA_k rl2 rs2 o2 fun xs ds ρ3 B3 H3 μ3 l3 rl3 rs3 q o3 => ?_⟩
      exact hg.2 _ x dx xs ds ρ3 B3 H3 μ3 Q rl3 (p.mono l3.ex l3.pre) q o3
theorem isLst_ty {ρ : List Addr} {B H : Hp} {μ : Store} {x : V} {dx : AD} (rl : Rl w ρ B μ H) (p : Rep w ρ B x dx) (h : isLst μ dx = true) : tyV w.K "list" x H := by
  unfold isLst at h
  cases e : lstD μ dx with
  | none => rw [e] at h; cases h
  | some ds =>
    obtain ⟨a, vs, rfl, h1, _⟩ := lstD_ok rl p e
    exact .inl ⟨rfl, vs, h1⟩
def mApp : AD → List AD → Store → R AD := fun x ds μ => match x, ds with
  | .ref n, [y] => (match μ[n]? with
    | some (.lst xs) => chk (decide (xs.length < sizeLine)) (.ok .non (μ.set n (.lst (xs ++ [y]))))
    | _ => .bad)
  | _, _ => .bad
theorem s_app : BmS w "list" rAppend (fun d μ => isLst μ d) mApp := by
  refine ⟨fun ρ B H μ x dx rl p h => isLst_ty rl p h, fun W x dx xs ds ρ B H μ Q rl p q o => ?_⟩
  cases p with
  | @ref a n hn =>
    cases q with
    | nil => exact o.elim
    | cons r q =>
      cases q with
      | cons _ _ => exact False.elim o
      | nil =>
        obtain ⟨ob, e1, e2⟩ := rl.obj n a hn
        unfold mApp at o
        simp only [e1] at o
        cases ob with
        | dct _ => exact o.elim
        | any => exact o.elim
        | lst zs =>
          obtain ⟨hc, o⟩ := chk_out o
          obtain ⟨us, g1, g2⟩ := e2
          refine ⟨a, us, _, rfl, rfl, g1, by rw [g2.length]; exact of_decide_eq_true hc, ?_⟩
          obtain ⟨w1, w2⟩ := rl.write (ao := .lst (zs ++ [_])) (o := .lst (us ++ [_])) hn ⟨_, upd_same, g2.append (.cons r .nil)⟩
          exact o _ _ _ _ w2 w1 .non
  | _ => exact o.elim
def mExt : AD → List AD → Store → R AD := fun x ds μ => match x, ds with
  | .ref n, [y] => (match μ[n]?, lstM μ y with
    | some (.lst xs), some ys => chk (decide (xs.length + ys.length ≤ sizeLine)) (.ok .non (μ.set n (.lst (xs ++ ys))))
    | _, _ => .bad)
  | _, _ => .bad
theorem s_ext : BmS w "list" rExtend (fun d μ => isLst μ d) mExt := by
  refine ⟨fun ρ B H μ x dx rl p h => isLst_ty rl p h, fun W x dx xs ds ρ B H μ Q rl p q o => ?_⟩
  cases p with
  | @ref a n hn =>
    cases q with
    | nil => exact o.elim
    | cons r q =>
      cases q with
      | cons _ _ => exact False.elim o
      | nil =>
        rename_i y dy
        obtain ⟨ob, e1, e2⟩ := rl.obj n a hn
        unfold mExt at o
        simp only [e1] at o
        cases ob with
        | dct _ => exact o.elim
        | any => exact o.elim
        | lst zs =>
          try simp only at o
          cases em : lstM μ dy with
          | none => rw [em] at o; exact o.elim
          | some ys =>
            rw [em] at o
            obtain ⟨hc, o⟩ := chk_out o
            obtain ⟨us, g1, g2⟩ := e2
            obtain ⟨b, ws, rfl, g3, g4⟩ := lstM_ok rl r em
            refine ⟨a, b, us, ws, rfl, rfl, g1, g3, by rw [g2.length, g4.length]; exact of_decide_eq_true hc, ?_⟩
            obtain ⟨w1, w2⟩ := rl.write (ao := .lst (zs ++ ys)) (o := .lst (us ++ ws)) hn ⟨_, upd_same, g2.append g4⟩
            exact o _ _ _ _ w2 w1 .non
  | _ => exact o.elim
/-! ### xs[i] = v -/
def aSetI (x y v : AD) (μ : Store) : Option Store := match x, y with
  | .ref n, .int i => (match μ[n]? with
    | some (.lst ds) => (match ixN ds.length i with
      | some j => some (μ.set n (.lst (ds.set j v)))
      | none => none)
    | _ => none)
  | _, _ => none
def gSetI (fo fi : SE) : AD → SS := fun v s μ => (fo s μ).st s fun x μ1 => (fi s μ1).st s fun y μ2 => match aSetI x y v μ2 with
  | some μ3 => .nx s μ3
  | none => .bad
theorem rg_setI {o i : Expr} {fo fi : SE} {pos : Pos} (ho : PE X o (lift w W fo)) (hi : PE X i (lift w W fi))
    (ha : ∀ v, assign (.Subscript o i pos) X.env v = (do
      let ov ← holding [v] (eval o X.env)
      let iv ← holding [v, ov] (eval i X.env)
      standAt pos
      holding [v, ov, iv] (setItem ov iv v)
      release [v, ov, iv] []) := by intro _; rfl) : PG X (.Subscript o i pos) (liftG w W (gSetI fo fi)) :=
  ⟨fun pins s σ H v u Q I r h' => (pg_sub ho hi set_list ha).run pins s σ H v u Q I r (by
    obtain ⟨ρ, B, s, μ, d, rl, rs, rp, o⟩ := h'
    have o : SOut w W ρ B H ((fo s μ).st s fun x μ1 => (fi s μ1).st s fun y μ2 => match aSetI x y d μ2 with | some μ3 => .nx s μ3 | none => .bad) { nx := Q, rt := fun _ _ => False } := o
    refine ⟨ρ, B, s, μ, rl, rs, Out.imp (SOut.st rs o) fun x H1 ⟨ρ1, B1, dx, μ1, l1, rl1, p1, o1⟩ => ?_⟩
    refine ⟨ρ1, B1, s, μ1, rl1, rs.le l1, Out.imp (SOut.st (rs.le l1) o1) fun y H2 ⟨ρ2, B2, dy, μ2, l2, rl2, p2, o2⟩ => ?_⟩
    have p1 := p1.mono l2.ex l2.pre
    have rp := (rp.mono l1.ex l1.pre).mono l2.ex l2.pre
    cases p1 with
    | @ref a n hn =>
      cases p2 with
      | int k =>
        obtain ⟨ob, e1, e2⟩ := rl2.obj n a hn
        unfold aSetI at o2
        simp only [e1] at o2
        cases ob with
        | dct _ => exact o2.elim
        | any => exact o2.elim
        | lst zs =>
          simp only at o2
          obtain ⟨us, g1, g2⟩ := e2
          cases e3 : ixN zs.length k with
          | none => rw [e3] at o2; exact o2.elim
          | some j =>
            rw [e3] at o2
            refine ⟨a, us, k, j, rfl, rfl, g1, by rw [g2.length]; exact e3, ?_⟩
            obtain ⟨w1, w2⟩ := rl2.write (ao := .lst (zs.set j d)) (o := .lst (us.set j v)) hn ⟨_, upd_same, g2.set rp j⟩
            exact o2 _ _ _ _ w2 w1 (((rs.le l1).le l2).le w2)
      | _ => exact o2.elim
    | _ => exact o2.elim)⟩
end
end SC

set_option Elab.async false
set_option linter.all false
set_option maxRecDepth 100000
set_option maxHeartbeats 2000000
namespace SC
open PySem PySem.Spec PyProof.Rows L2 LamX NdefX
/-! ### cells handed to a callee, taken from it -/
theorem add_ok {P : Program} {wd : World} {cs : List (Addr × Obj)} {H : Hp} {h : Heap} (x : HOk P wd H h) (hc : ∀ c o, cs.lookup c = some o → H c = none ∧ h.get? c = some o) : HOk P wd (addC cs H) h := fun b u e => by
  by_cases hb : isC cs b
  · obtain ⟨o, ho⟩ := hb
    rw [addC_c ho] at e; cases e
    exact ⟨(hc b o ho).2, trivial, ⟨o, (hc b o ho).2⟩, fun _ _ _ _ => trivial⟩
  · rw [addC_n hb] at e
    refine (x b u e).stay (fun c v _ q => q) (fun c q => ?_) fun c xs q => ?_
    · rw [addC_n (fun ⟨o, z⟩ => by rw [(hc c o z).1] at q; cases q)]; exact q
    · rw [addC_n (fun ⟨o, z⟩ => by rw [(hc c o z).1] at q; cases q)]; exact q
theorem del_ok {P : Program} {wd : World} {cs : List (Addr × Obj)} {H : Hp} {h : Heap} (x : HOk P wd H h) (hc : ∀ c o, cs.lookup c = some o → H c = some (cellO o)) : HOk P wd (delC cs H) h := fun b u e => by
  by_cases hb : isC cs b
  · rw [delC_c hb] at e; cases e
  · rw [delC_n hb] at e
    refine (x b u e).stay (fun c v _ q => q) (fun c q => ?_) fun c xs q => ?_
    · rw [delC_n (fun ⟨o, z⟩ => by rw [hc c o z] at q; cases q)]; exact q
    · rw [delC_n (fun ⟨o, z⟩ => by rw [hc c o z] at q; cases q)]; exact q
section
variable {P : Program} {wd : World} {K : PySem.W.Frag} {mg : Str → Option Value} {base : Heap} {A : Around} {outer : List Env} {s s' : Shared} {H : Hp} {cs : List (Addr × Obj)} {Q : VK} {E : XK}
theorem env0_add (e : Env0 P wd K mg base A outer s H) (hc : ∀ c o, cs.lookup c = some o → H c = none ∧ s.heap.get? c = some o ∧ c ∉ frs outer ∧ base.get? c = none) : Env0 P wd K mg base A outer s (addC cs H) :=
  ⟨e.frames, e.mod, fun b o q => ⟨(e.bs b o q).1, by rw [addC_n (fun ⟨u, z⟩ => by rw [(hc b u z).2.2.2] at q; cases q)]; exact (e.bs b o q).2⟩, e.bsz, e.funs, fun b hb => by rw [addC_n (fun ⟨u, z⟩ => (hc b u z).2.2.1 hb)]; exact e.frf b hb,
    add_ok e.hok fun c o z => ⟨(hc c o z).1, (hc c o z).2.1⟩, e.bare⟩
theorem env0_del (e : Env0 P wd K mg base A outer s H) (hc : ∀ c o, cs.lookup c = some o → H c = some (cellO o)) : Env0 P wd K mg base A outer s (delC cs H) :=
  have no : ∀ b, H b = none → delC cs H b = none := fun b q => by
    by_cases z : isC cs b
    · exact delC_c z
    · rw [delC_n z]; exact q
  ⟨e.frames, e.mod, fun b o q => ⟨(e.bs b o q).1, no b (e.bs b o q).2⟩, e.bsz, e.funs, fun b hb => no b (e.frf b hb), del_ok e.hok hc, e.bare⟩
/-- behind a callee that had the cells -/
theorem cr_add (hc : ∀ c o, cs.lookup c = some o → H c = none ∧ s.heap.get? c = some o ∧ c ∉ frs outer) {r : Result} (h : CR (L2.CX P wd) outer P wd (addC cs H) s (fun v H' => Q v (delC cs H')) (fun k d H' => E k d (delC cs H')) r s') : CR (L2.CX P wd) outer P wd H s Q E r s' := by
  have cell : ∀ {H' : Hp}, (∀ b o u, addC cs H b = some (.frz o u) → H' b = some (.frz o u)) → ∀ c o, cs.lookup c = some o → H' c = some (cellO o) := fun {H'} f c o z => f c o _ (addC_c z)
  cases r with
  | ok fl =>
    cases fl with
    | ret u =>
      obtain ⟨v, H', os, bare, un, hok, rv, q⟩ := h
      have hx := cell un.frzs
      refine ⟨v, delC cs H', os, bare, ⟨fun b o e n hb hx' => ?_, fun b o e n hb hx' => ?_, fun b o e n hx' => ?_, un.there, fun b xs e => ?_, fun b o u e => ?_, fun b ps e => ?_⟩, del_ok hok hx, rv, q⟩
      · by_cases z : isC cs b
        · obtain ⟨o', z⟩ := z
          have := (hc b o' z).2.1
          rw [e] at this; cases this
          exact (hok b _ (hx b _ z)).1
        · exact un.keep b o e (by rw [addC_n z]; exact n) hb hx'
      · have z : ¬ isC cs b := fun ⟨o', z⟩ => (hc b o' z).2.2 hb
        exact un.slot b o e (by rw [addC_n z]; exact n) hb hx'
      · by_cases z : isC cs b
        · exact delC_c z
        · rw [delC_n z]; exact un.free b o e (by rw [addC_n z]; exact n) hx'
      · have z : ¬ isC cs b := fun ⟨o', z⟩ => by rw [(hc b o' z).1] at e; cases e
        rw [delC_n z]; exact un.tups b xs (by rw [addC_n z]; exact e)
      · have z : ¬ isC cs b := fun ⟨o', z⟩ => by rw [(hc b o' z).1] at e; cases e
        rw [delC_n z]; exact un.frzs b o u (by rw [addC_n z]; exact e)
      · have z : ¬ isC cs b := fun ⟨o', z⟩ => by rw [(hc b o' z).1] at e; cases e
        rw [delC_n z]; exact un.tbls b ps (by rw [addC_n z]; exact e)
    | next => exact h
    | brk => exact h
    | cont => exact h
  | error e =>
    obtain ⟨a, G, H', cls, d, rfl, fl, hok, ub, na, os, ag, q⟩ := h
    have hx := cell ub.frzs
    refine ⟨a, G, delC cs H', cls, d, rfl, fl, del_ok hok hx, ⟨fun b o e n hb => ?_, ub.slot, fun b o e n => ?_, ub.there, fun b xs e => ?_, fun b o u e => ?_, fun b ps e => ?_⟩, ?_, os, ag, q⟩
    · by_cases z : isC cs b
      · obtain ⟨o', z⟩ := z
        have := (hc b o' z).2.1
        rw [e] at this; cases this
        exact (hok b _ (hx b _ z)).1
      · exact ub.keep b o e (by rw [addC_n z]; exact n) hb
    · by_cases z : isC cs b
      · exact delC_c z
      · rw [delC_n z]; exact ub.free b o e (by rw [addC_n z]; exact n)
    · have z : ¬ isC cs b := fun ⟨o', z⟩ => by rw [(hc b o' z).1] at e; cases e
      rw [delC_n z]; exact ub.tups b xs (by rw [addC_n z]; exact e)
    · have z : ¬ isC cs b := fun ⟨o', z⟩ => by rw [(hc b o' z).1] at e; cases e
      rw [delC_n z]; exact ub.frzs b o u (by rw [addC_n z]; exact e)
    · have z : ¬ isC cs b := fun ⟨o', z⟩ => by rw [(hc b o' z).1] at e; cases e
      rw [delC_n z]; exact ub.tbls b ps (by rw [addC_n z]; exact e)
    · by_cases z : isC cs a
      · exact delC_c z
      · rw [delC_n z]; exact na
/-- behind a callee that had them as its own -/
theorem cr_del (hc : ∀ c o, cs.lookup c = some o → H c = some (cellO o) ∧ s.heap.get? c = some o ∧ c ∉ frs outer) {r : Result} (h : CR (L2.CX P wd) outer P wd (delC cs H) s (fun v H' => (∀ c, isC cs c → H' c = none) → Q v (addC cs H')) (fun k d H' => (∀ c, isC cs c → H' c = none) → E k d (addC cs H')) r s') : CR (L2.CX P wd) outer P wd H s Q E r s' := by
  have nz : ∀ c o, cs.lookup c = some o → delC cs H c = none := fun c o z => delC_c ⟨o, z⟩
  cases r with
  | ok fl =>
    cases fl with
    | ret u =>
      obtain ⟨v, H', os, bare, un, hok, rv, q⟩ := h
      have hx : ∀ c o, cs.lookup c = some o → H' c = none ∧ s'.heap.get? c = some o := fun c o z => ⟨un.free c o (hc c o z).2.1 (nz c o z) (by simp), un.keep c o (hc c o z).2.1 (nz c o z) (hc c o z).2.2 (by simp)⟩
      refine ⟨v, addC cs H', os, bare, ⟨fun b o e n hb hx' => ?_, fun b o e n hb hx' => ?_, fun b o e n hx' => ?_, un.there, fun b xs e => ?_, fun b o u e => ?_, fun b ps e => ?_⟩, add_ok hok hx, rv, q fun c ⟨o, z⟩ => (hx c o z).1⟩
      · have z : ¬ isC cs b := fun ⟨o', z⟩ => by rw [(hc b o' z).1] at n; cases n
        exact un.keep b o e (by rw [delC_n z]; exact n) hb hx'
      · have z : ¬ isC cs b := fun ⟨o', z⟩ => by rw [(hc b o' z).1] at n; cases n
        exact un.slot b o e (by rw [delC_n z]; exact n) hb hx'
      · have z : ¬ isC cs b := fun ⟨o', z⟩ => by rw [(hc b o' z).1] at n; cases n
        rw [addC_n z]; exact un.free b o e (by rw [delC_n z]; exact n) hx'
      · have z : ¬ isC cs b := fun ⟨o', z⟩ => by rw [(hc b o' z).1] at e; cases e
        rw [addC_n z]; exact un.tups b xs (by rw [delC_n z]; exact e)
      · by_cases z : isC cs b
        · obtain ⟨o', z⟩ := z
          rw [(hc b o' z).1] at e; cases e
          exact addC_c z
        · rw [addC_n z]; exact un.frzs b o u (by rw [delC_n z]; exact e)
      · have z : ¬ isC cs b := fun ⟨o', z⟩ => by rw [(hc b o' z).1] at e; cases e
        rw [addC_n z]; exact un.tbls b ps (by rw [delC_n z]; exact e)
    | next => exact h
    | brk => exact h
    | cont => exact h
  | error e =>
    obtain ⟨a, G, H', cls, d, rfl, fl, hok, ub, na, os, ag, q⟩ := h
    have hx : ∀ c o, cs.lookup c = some o → H' c = none ∧ G.get? c = some o := fun c o z => ⟨ub.free c o (hc c o z).2.1 (nz c o z), ub.keep c o (hc c o z).2.1 (nz c o z) (hc c o z).2.2⟩
    refine ⟨a, G, addC cs H', cls, d, rfl, fl, add_ok hok hx, ⟨fun b o e n hb => ?_, ub.slot, fun b o e n => ?_, ub.there, fun b xs e => ?_, fun b o u e => ?_, fun b ps e => ?_⟩, ?_, os, ag, q fun c ⟨o, z⟩ => (hx c o z).1⟩
    · have z : ¬ isC cs b := fun ⟨o', z⟩ => by rw [(hc b o' z).1] at n; cases n
      exact ub.keep b o e (by rw [delC_n z]; exact n) hb
    · have z : ¬ isC cs b := fun ⟨o', z⟩ => by rw [(hc b o' z).1] at n; cases n
      rw [addC_n z]; exact ub.free b o e (by rw [delC_n z]; exact n)
    · have z : ¬ isC cs b := fun ⟨o', z⟩ => by rw [(hc b o' z).1] at e; cases e
      rw [addC_n z]; exact ub.tups b xs (by rw [delC_n z]; exact e)
    · by_cases z : isC cs b
      · obtain ⟨o', z⟩ := z
        rw [(hc b o' z).1] at e; cases e
        exact addC_c z
      · rw [addC_n z]; exact ub.frzs b o u (by rw [delC_n z]; exact e)
    · have z : ¬ isC cs b := fun ⟨o', z⟩ => by rw [(hc b o' z).1] at e; cases e
      rw [addC_n z]; exact ub.tbls b ps (by rw [delC_n z]; exact e)
    · have z : ¬ isC cs a := fun ⟨o', z⟩ => by
        have h1 := (hx a o' z).2
        have h2 := fl.2.1
        rw [h1] at h2; cases h2
      rw [addC_n z]; exact na
end
/-! ### a lambda is made -/
theorem Rl.table {w : Wo} {ρ : List Addr} {B H : Hp} {μ : Store} {P c' : Addr} {q : Str} {ps : Array Value} {pos : Pos} (r : Rl w ρ B μ H) (hw : (P, q) ∈ w.T) (hu : ∀ p ∈ w.T, p.1 = P → p.2 = q) (hP : H P = some (.tbl ps)) (ht : TriplesOk ps.toList) (hc : H c' = none) :
    Rl w ρ (upd B c' (CodeO c' q)) μ (upd (upd H P (.tbl (ps ++ #[rawInt pos.line, rawInt pos.col, .ref c']))) c' (CodeO c' q)) ∧ Le ρ B H ρ (upd B c' (CodeO c' q)) (upd (upd H P (.tbl (ps ++ #[rawInt pos.line, rawInt pos.col, .ref c']))) c' (CodeO c' q)) := by
  have nPc : P ≠ c' := fun e => by rw [e, hc] at hP; cases hP
  have hB : B c' = none := by
    cases e : B c' with
    | none => rfl
    | some o => rw [r.ex c' o e] at hc; cases hc
  obtain ⟨tP, bP, _⟩ := r.tab _ hw
  have hn : ∀ a ∈ ρ, a ≠ c' := fun a ha e => r.there a ha (e ▸ hc)
  have hnP : ∀ a ∈ ρ, a ≠ P := fun a ha e => tP (e ▸ ha)
  have at_ : ∀ a, a ≠ c' → a ≠ P → upd (upd H P (.tbl (ps ++ #[rawInt pos.line, rawInt pos.col, .ref c']))) c' (CodeO c' q) a = H a := fun a h1 h2 => by rw [upd_ne h1, upd_ne h2]
  have eL : (ps ++ #[rawInt pos.line, rawInt pos.col, .ref c']).toList = ps.toList ++ [rawInt pos.line, rawInt pos.col, .ref c'] := by simp
  refine ⟨⟨fun a u h => ?_, r.nd, fun a ha => ?_, fun n a h => ?_, r.len, fun p hp => ?_⟩, ⟨Pre.rfl' _, ex_new hB, fun a o _ hT h => ?_, fun a h z => ?_, fun a h => ?_, fun a h => .inl h, fun a h => ?_⟩⟩
  · by_cases e : a = c'
    · subst e; rw [upd_same] at h ⊢; exact h
    · rw [upd_ne e] at h
      rw [at_ a e (fun z => by rw [z, bP] at h; cases h)]
      exact r.ex a u h
  · rw [upd_ne (hn a ha)]; exact r.off a ha
  · obtain ⟨ob, h1, h2⟩ := r.obj n a h
    have ha := mem_of_get h
    exact ⟨ob, h1, h2.mono (ex_new hB) (Pre.rfl' _) (at_ a (hn a ha) (hnP a ha))⟩
  · obtain ⟨t1, t2, ps', t3, t4, t5⟩ := r.tab p hp
    have npc : p.1 ≠ c' := fun e => by rw [e, hc] at t3; cases t3
    refine ⟨t1, by rw [upd_ne npc]; exact t2, ?_⟩
    by_cases e : p.1 = P
    · have ep : ps' = ps := by rw [e, hP] at t3; cases t3; rfl
      subst ep
      refine ⟨ps' ++ #[rawInt pos.line, rawInt pos.col, .ref c'], by rw [upd_ne npc, e, upd_same], by rw [eL]; exact PySem.TriplesOk_snoc _ _ _ _ t4, fun p' cv hcv => ?_⟩
      rw [eL] at hcv
      rcases among_app _ t4 hcv with z | z
      · obtain ⟨c0, e1, e2⟩ := t5 p' cv z
        exact ⟨c0, e1, ex_new hB _ _ e2⟩
      · exact ⟨c', z, by rw [upd_same, hu p hp e]⟩
    · refine ⟨ps', by rw [at_ p.1 npc e]; exact t3, t4, fun p' cv hcv => ?_⟩
      obtain ⟨c0, e1, e2⟩ := t5 p' cv hcv
      exact ⟨c0, e1, ex_new hB _ _ e2⟩
  · by_cases e : a = c'
    · subst e; rw [hc] at h; cases h
    · rw [at_ a e (fun z => by rw [z, hP] at h; exact hT ps (Option.some.inj h).symm)]
      exact h
  · by_cases e : a = c'
    · subst e; rw [upd_same] at z; cases z
    · by_cases e2 : a = P
      · subst e2; rw [upd_ne e, upd_same] at z; cases z
      · rw [at_ a e e2] at z; exact h z
  · by_cases e : a = c'
    · subst e; exact .inr hc
    · rw [upd_ne e] at h; exact .inl h
  · rw [at_ a (hn a h) (hnP a h)]; exact r.there a h
def eLam (j : Nat) : SE := fun _ μ => .ok (.lamR j) μ
section
variable {X : Cx} {w : Wo} {W : WX}
theorem r_lam {c P : Addr} {params : Arguments} {body : Expr} {scope : Scope} {pos : Pos} {frees : List Str} {j : Nat} (hw : w.cl = some X.env.cells) (hd : w.lamd j = ⟨X.env.qual ++ "<lambda>", params, body, scope, frees⟩) (TB : TabB X.base X.mg c P) (hcode : X.env.code = .ref c)
    (hm : (P, X.env.qual ++ "<lambda>") ∈ w.T) (hu : ∀ p ∈ w.T, p.1 = P → p.2 = X.env.qual ++ "<lambda>") (hdef : defaultsOf params X.env = ([], [])) (hf : ∀ y ∈ scope.names, y.2 = .free → X.env.scope.names.lookup y.1 = some .cell ∨ X.env.scope.names.lookup y.1 = some .free) :
    PE X (.Lambda params body scope pos) (lift w W (eLam j)) := by
  refine ⟨fun pins s σ H Q I h => ?_⟩
  obtain ⟨ρ, B, sl, μ, rl, rs, o⟩ := h
  have hfree : ∀ y ∈ scope.names, y.2 = .free → ∃ c, X.env.cells.lookup y.1 = some c := fun y hy e => by
    rcases hf y hy e with k | k
    · exact I.ok.has _ (.inl k)
    · exact I.ok.has _ (.inr k)
  obtain ⟨tP, bP, ps, hP, ht, ha⟩ := rl.tab _ hm
  refine PySem.W.kla_eval hdef ?_
  have bPx : s.heap.BuiltinsAt X.mg P := TB.bm.keeps I.bk
  have hP' : s.heap.get? P = some { cls := .none, data := .fields ps } := I.hok P _ hP
  -- the function's object is laid last
  have fin : ∀ {ρ' : List Addr} {B' H' : Hp} {s1 : Shared} {c' : Addr} {ctv : Value} {tk : Nat}, Inv X pins σ H' s1 → Rl w ρ B' μ H' → Le ρ B H ρ B' H' → B' c' = some (CodeO c' (X.env.qual ++ "<lambda>")) →
      EP X pins σ Q (.ref s1.heap.objs.size) { s1 with heap := s1.heap.push (PySem.W.kla_obj "<lambda>" (X.env.qual ++ "<lambda>") params body scope (cloFrom X.env.cells scope.names []) ((X.mg "__name__").getD .none) c' ctv), toks := tk } := fun {ρ' B' H' s1 c' ctv tk} I1 r1 l1 hB => by
    have hfn : H' s1.heap.objs.size = none := I1.hok.fresh (Nat.le_refl _)
    obtain ⟨k1, k2⟩ := r1.known (o := lamO (w.lamd j) (cloFrom X.env.cells scope.names []) ((X.mg "__name__").getD .none) ctv c' s1.heap.objs.size) hfn
    refine ⟨.ref s1.heap.objs.size, _, I1.laid (a := s1.heap.objs.size) (o := lamO (w.lamd j) (cloFrom X.env.cells scope.names []) ((X.mg "__name__").getD .none) ctv c' s1.heap.objs.size) (t' := tk) (fun b o e => Heap.get?_push_of_some _ e) (Nat.le_refl _) ?_, rfl, o _ _ _ _ (l1.trans k2) k1 ?_⟩
    · have e := Heap.get?_push_size s1.heap (o := PySem.W.kla_obj "<lambda>" (X.env.qual ++ "<lambda>") params body scope (cloFrom X.env.cells scope.names []) ((X.mg "__name__").getD .none) c' ctv) rfl
      refine ⟨?_, ⟨_, e⟩, fun h1 h2 q st => st _ q⟩
      rw [hd]
      exact e
    · have hsc : (w.lamd j).scope = scope := by rw [hd]
      have hq : (w.lamd j).qual = X.env.qual ++ "<lambda>" := by rw [hd]
      refine .lamR (c' := c') hw (by rw [hsc]; exact upd_same) ?_
      rw [hq]
      exact k2.ex _ _ hB
  cases hc : codeAmong pos ps.toList with
  | none =>
    refine PySem.W.kla_makeFunction (mg := X.mg) (c := c) (P := P) (ps := ps) (closure_ok hfree) I.ok.glob (I.mod.glob.keeps I.bk) hcode (TB.code.keeps I.bk) hP' ht hc TB.gP bPx fun c' ctv h' tk hx hge hlt hrec htb => ?_
    obtain ⟨c2, oc, vs, t, e2, hoc, hdd, hv⟩ := hrec
    cases e2
    have nC : H c' = none := I.hok.fresh hge
    have I1 : Inv X pins σ (upd (upd H P (.tbl (ps ++ #[rawInt pos.line, rawInt pos.col, .ref c']))) c' (CodeO c' (X.env.qual ++ "<lambda>"))) { s with heap := h', toks := s.toks } := inv_table I hP (fun b o hb e => hx b o hb e) htb hge ⟨oc, vs, t, hoc, hdd, hv⟩
    obtain ⟨k1, k2⟩ := rl.table (pos := pos) hm hu hP ht nC
    exact fin (ρ' := ρ) I1 k1 k2 upd_same
  | some cv =>
    obtain ⟨c', e, hco⟩ := ha pos cv hc
    subst e
    refine PySem.W.kla_makeFunctionHit (mg := X.mg) (c := c) (P := P) (ps := ps) (closure_ok hfree) I.ok.glob (I.mod.glob.keeps I.bk) hcode (TB.code.keeps I.bk) hP' ht hc bPx fun ctv h' tk hx hsz => ?_
    have I1 : Inv X pins σ H { s with heap := h', toks := s.toks } := I.kept fun b o e => hx b o e
    exact fin (ρ' := ρ) I1 rl (Le.rfl' rl) hco
end
end SC

set_option Elab.async false
set_option linter.all false
set_option maxRecDepth 100000
set_option maxHeartbeats 2000000
namespace SC
open PySem PySem.Spec PyProof.Rows L2 LamX NdefX
/-! ### a call that is handed lambdas, lists of one's own -/
def sealD (cap : Nat → Option (List Nat)) (s : Slots) (μ : Store) : Nat → AD → Option AD
  | 0, _ => none
  | k + 1, d => match d with
    | .ref n => (match μ[n]? with
      | some (.lst ds) => (match mapO (sealD cap s μ k) ds with
        | some ds' => some (.lst ds')
        | none => none)
      | _ => none)
    | .lamR j => (match cap j with
      | some is => (match mapO (fun i => match s[i]? with
          | some (some d) => sealD cap s μ k d
          | _ => none) is with
        | some ds' => some (.lamS j ds')
        | none => none)
      | none => none)
    | .tup ds => (match mapO (sealD cap s μ k) ds with
      | some ds' => some (.tup ds')
      | none => none)
    | .lst ds => (match mapO (sealD cap s μ k) ds with
      | some ds' => some (.lst ds')
      | none => none)
    | .scr ds => (match mapO (sealD cap s μ k) ds with
      | some ds' => some (.scr ds')
      | none => none)
    | .lamS j ds => (match mapO (sealD cap s μ k) ds with
      | some ds' => some (.lamS j ds')
      | none => none)
    | .exc c d => (match sealD cap s μ k d with
      | some d' => some (.exc c d')
      | none => none)
    | d => some d
theorem mapO_get {α β : Type} {f : α → Option β} : ∀ {l : List α} {m : List β}, mapO f l = some m → m.length = l.length ∧ ∀ (i : Nat) (a : α), l[i]? = some a → ∃ b, m[i]? = some b ∧ f a = some b
  | [], m, e => by cases e; exact ⟨rfl, fun i a h => by simp at h⟩
  | a :: r, m, e => by
    unfold mapO at e
    cases e1 : f a with
    | none => rw [e1] at e; cases e
    | some b =>
      rw [e1] at e
      simp only at e
      cases e2 : mapO f r with
      | none => rw [e2] at e; cases e
      | some bs =>
        rw [e2] at e
        cases e
        obtain ⟨h1, h2⟩ := mapO_get e2
        refine ⟨congrArg (· + 1) h1, fun i x hx => ?_⟩
        cases i with
        | zero => cases hx; exact ⟨b, rfl, e1⟩
        | succ i => exact h2 i x hx
/-- what a lambda has captured, at the heap -/
structure CapAt (Bp : Hp) (cl : List (Str × Addr)) (fr : List Str) (is : List Nat) (σ : L2.St) : Prop where
  inj : ∀ x y c, cl.lookup x = some c → cl.lookup y = some c → x = y
  sub : ∀ x c, cl.lookup x = some c → ∃ i : Nat, fr[i]? = some x
  len : is.length = fr.length
  at_ : ∀ (m : Nat) (x : Str) (i : Nat) (v : V), fr[m]? = some x → is[m]? = some i → σ[i]? = some (some v) → ∃ (c : Addr) (o : Obj) (u : Value), cl.lookup x = some c ∧ Bp c = some (cellO o) ∧ o.data = .cell (some u) ∧ RelV v u
section
variable {w : Wo} {ρ : List Addr} {B Bp H : Hp} {μ : Store} {cap : Nat → Option (List Nat)} {σ : L2.St} {s : Slots} {cells : List (Str × Addr)}
theorem seal_ok (hL : ∀ j is, cap j = some is → CapAt Bp (cloFrom cells (w.lamd j).scope.names []) (w.lamd j).frees is σ) (hB : Ex B Bp) (hR : ∀ (n : Nat) (a : Addr) xs, ρ[n]? = some a → H a = some (.lst xs) → Bp a = some (.lst xs)) (rl : Rl (w.at' (some cells)) ρ B μ H) (rs : RSl (w.at' (some cells)) ρ B σ s) :
    ∀ (k : Nat) {v : V} {d d' : AD}, Rep (w.at' (some cells)) ρ B v d → sealD cap s μ k d = some d' → Rep w [] Bp v d'
  | 0, _, _, _, _, h => by simp [sealD] at h
  | k + 1, v, d, d', r, h => by
    have go : ∀ {vs : List V} {ds ds' : List AD}, Reps (w.at' (some cells)) ρ B vs ds → mapO (sealD cap s μ k) ds = some ds' → Reps w [] Bp vs ds' := fun q z => reps_map (f := fun d d' => sealD cap s μ k d = some d') (fun v d d' r x => seal_ok hL hB hR rl rs k r x) q (mapO_some (fun _ _ x => x) z)
    cases r with
    | non => cases h; exact .non
    | bl b => cases h; exact .bl b
    | int b => cases h; exact .int b
    | str b => cases h; exact .str b
    | ty b => cases h; exact .ty b
    | tup q1 q =>
      unfold sealD at h
      simp only at h
      split at h
      · cases h; rename_i e; exact .tup (ex_t hB q1) (go q e)
      · cases h
    | lst q1 q =>
      unfold sealD at h
      simp only at h
      split at h
      · cases h; rename_i e; exact .lst (hB _ _ q1) (go q e)
      · cases h
    | scr q1 q =>
      unfold sealD at h
      simp only at h
      split at h
      · cases h; rename_i e; exact .scr (ex_l hB q1) (go q e)
      · cases h
    | @ref a n hn =>
      unfold sealD at h
      obtain ⟨o, e1, e2⟩ := rl.obj n a hn
      simp only [e1] at h
      cases o with
      | lst ds =>
        simp only at h
        split at h
        · cases h
          rename_i e
          obtain ⟨vs, e3, e4⟩ := e2
          exact .lst (hR n a vs hn e3) (go e4 e)
        · cases h
      | dct kvs => cases h
      | any => cases h
    | exc h1 h2 q =>
      unfold sealD at h
      simp only at h
      split at h
      · cases h; rename_i e; exact .exc (hB _ _ h1) (hB _ _ h2) (seal_ok hL hB hR rl rs k q e)
      · cases h
    | lamS h1 h2 h3 q =>
      unfold sealD at h
      simp only at h
      split at h
      · cases h; rename_i e; exact .lamS (hB _ _ h1) (hB _ _ h2) (h3.mono hB) (go q e)
      · cases h
    | @lamR f c' j pm ctv l h0 h1 h2 =>
      have h0 : some cells = some l := h0
      cases h0
      unfold sealD at h
      simp only at h
      split at h
      · rename_i is ej
        split at h
        · cases h
          rename_i ds' e
          have C := hL j is ej
          obtain ⟨g1, g2⟩ := mapO_get e
          -- the captured values
          have each : ∀ (m i : Nat), is[m]? = some i → ∃ v d', σ[i]? = some (some v) ∧ ds'[m]? = some d' ∧ Rep w [] Bp v d' := fun m i hi => by
            obtain ⟨d', k1, k2⟩ := g2 m i hi
            split at k2
            · rename_i d es
              obtain ⟨v, k3, k4⟩ := rs.get es
              exact ⟨v, d', k3, k1, seal_ok hL hB hR rl rs k k4 k2⟩
            · cases k2
          have mk : ∀ (is : List Nat) (ds' : List AD), ds'.length = is.length → (∀ (m i : Nat), is[m]? = some i → ∃ v d', σ[i]? = some (some v) ∧ ds'[m]? = some d' ∧ Rep w [] Bp v d') →
              ∃ vs : List V, Reps w [] Bp vs ds' ∧ vs.length = is.length ∧ ∀ (m i : Nat), is[m]? = some i → ∃ v, vs[m]? = some v ∧ σ[i]? = some (some v) := by
            intro is
            induction is with
            | nil => intro ds' hl _; cases ds' with
              | nil => exact ⟨[], .nil, rfl, fun m i z => by simp at z⟩
              | cons _ _ => cases hl
            | cons i is ih => intro ds' hl he; cases ds' with
              | nil => cases hl
              | cons d ds' =>
                obtain ⟨vs, q1, q2, q3⟩ := ih ds' (Nat.succ.inj hl) fun m i hi => he (m + 1) i hi
                obtain ⟨v, d', z1, z2, z3⟩ := he 0 i rfl
                cases z2
                refine ⟨v :: vs, .cons z3 q1, congrArg (· + 1) q2, fun m i' hi => ?_⟩
                cases m with
                | zero => cases hi; exact ⟨v, rfl, z1⟩
                | succ m => exact q3 m i' hi
          obtain ⟨vs, q1, q2, q3⟩ := mk is ds' g1 each
          refine .lamS (hB _ _ h1) (hB _ _ h2) ⟨C.inj, C.sub, q2.trans C.len, fun m x hx => ?_⟩ q1
          have hm : m < is.length := by rw [C.len]; exact (List.getElem?_eq_some_iff.mp hx).1
          obtain ⟨v, z1, z2⟩ := q3 m _ (List.getElem?_eq_getElem hm)
          obtain ⟨c, o, u, y1, y2, y3, y4⟩ := C.at_ m x _ v hx (List.getElem?_eq_getElem hm) z2
          exact ⟨c, o, v, u, y1, y2, y3, z1, y4⟩
        · cases h
      · cases h
end
def eCallL (n : Nat) (f : List AD → Store → R AD) (cap : Nat → Option (List Nat)) (fa : SA) : SE := fun s μ => (fa s μ).bind fun ds μ1 => if ds.length = n then (match mapO (sealD cap s μ1 fz) ds with
  | some ds' => back0 false μ1 (f ds' [])
  | none => .bad) else .bad
open Classical in
noncomputable def bPl (cs : List (Addr × Obj)) (ρ : List Addr) (B H : Hp) : Hp := fun b => match cs.lookup b with
  | some o => some (cellO o)
  | none => if b ∈ ρ ∧ ∃ xs, H b = some (.lst xs) then H b else B b
theorem look_of {l : List (Addr × Obj)} {a : Addr} {o : Obj} (h : l.lookup a = some o) : (a, o) ∈ l := by
  induction l with
  | nil => cases h
  | cons p r ih =>
    obtain ⟨b, u⟩ := p
    rw [List.lookup_cons] at h
    split at h
    · cases h
      rename_i e
      have : a = b := by simpa using e
      subst this
      exact List.mem_cons_self
    · exact List.mem_cons_of_mem _ (ih h)
theorem look_is {l : List (Addr × Obj)} {a : Addr} {o : Obj} (h : (a, o) ∈ l) : ∃ o', l.lookup a = some o' := by
  induction l with
  | nil => cases h
  | cons p r ih =>
    obtain ⟨b, u⟩ := p
    rw [List.lookup_cons]
    split
    · exact ⟨_, rfl⟩
    · rename_i e
      rcases List.mem_cons.mp h with z | z
      · cases z
        simp at e
      · exact ih z
section
variable {X : Cx} {w : Wo} {W : WX} {k : Nat} {f : Addr} {fd : FuncData} {ps : List Str} {fF : List AD → Store → R AD} {x : Str} {p pos : Pos} {e : Expr} {es : List Expr} {fa : SA} {n : Nat} {cap : Nat → Option (List Nat)}
/-- the cells of some names of this frame -/
def cellsAt (X : Cx) (h : Heap) (names : List Str) : List (Addr × Obj) := names.filterMap fun x => (X.env.cells.lookup x).bind fun c => (h.get? c).map fun o => (c, o)
theorem cellsAt_mem {X : Cx} {h : Heap} {names : List Str} {c : Addr} {o : Obj} (z : (cellsAt X h names).lookup c = some o) : ∃ x ∈ names, X.env.cells.lookup x = some c ∧ h.get? c = some o := by
  have := look_of z
  unfold cellsAt at this
  rw [List.mem_filterMap] at this
  obtain ⟨x, hx, e⟩ := this
  cases e1 : X.env.cells.lookup x with
  | none => rw [e1] at e; cases e
  | some c' =>
    rw [e1] at e
    cases e2 : h.get? c' with
    | none => rw [Option.bind_some, e2] at e; cases e
    | some o' =>
      rw [Option.bind_some, e2] at e
      cases e
      exact ⟨x, hx, e1, e2⟩
theorem cellsAt_of {X : Cx} {h : Heap} {names : List Str} {x : Str} {c : Addr} {o : Obj} (hx : x ∈ names) (e1 : X.env.cells.lookup x = some c) (e2 : h.get? c = some o) : (cellsAt X h names).lookup c = some o := by
  have : (c, o) ∈ cellsAt X h names := by
    unfold cellsAt
    rw [List.mem_filterMap]
    exact ⟨x, hx, by rw [e1, Option.bind_some, e2]; rfl⟩
  obtain ⟨o', ho⟩ := look_is this
  obtain ⟨_, _, _, e3⟩ := cellsAt_mem ho
  rw [e2] at e3
  cases e3
  exact ho
/-- what a state knows of the cells that some lambdas capture -/
structure CellK (Y : Cx) (w : Wo) (cells : List (Str × Addr)) (cap : Nat → Option (List Nat)) (σ : L2.St) (H : Hp) (s : Shared) (cs : List (Addr × Obj)) : Prop where
  at_ : ∀ c ob, cs.lookup c = some ob → H c = none ∧ s.heap.get? c = some ob ∧ c ∉ frs Y.stack ∧ Y.base.get? c = none
  cap : ∀ j is, cap j = some is → (∀ x y c, (cloFrom cells (w.lamd j).scope.names []).lookup x = some c → (cloFrom cells (w.lamd j).scope.names []).lookup y = some c → x = y) ∧ (∀ x c, (cloFrom cells (w.lamd j).scope.names []).lookup x = some c → ∃ i : Nat, (w.lamd j).frees[i]? = some x) ∧ is.length = (w.lamd j).frees.length ∧
    ∀ (m : Nat) (x : Str) (i : Nat) (v : V), (w.lamd j).frees[m]? = some x → is[m]? = some i → σ[i]? = some (some v) → ∃ (c : Addr) (o : Obj) (u : Value), (cloFrom cells (w.lamd j).scope.names []).lookup x = some c ∧ cs.lookup c = some o ∧ o.data = .cell (some u) ∧ RelV v u
open Classical in
theorem callL_core {cells : List (Str × Addr)} {Ak : L2.St → Prop} (hw : w.cl = none) (F : FnG X.prog X.w X.K X.mg X.base (L2.CX X.prog X.w) k f fd ps (spF w fF n)) (hr : RoomG k X.A) (hg : Gl X x) (hm : X.mg x = some (.ref f)) (hk : PySem.W.keepIn X.K (.ref f) = true) (hb : Binds X.K fd ps []) (tk : Takes X W)
    (hcell : ∀ pins σ H s, Inv X pins σ H s → Ak σ → ∃ cs, CellK X w cells cap σ H s cs)
    (ha : PA X (e :: es) (liftA (w.at' (some cells)) W fa)) (hdb : (x == ("__debug__" : Str)) = false := by decide) (he : starEach (e :: es) X.env = (false, eval e X.env) :: starEach es X.env := by rfl) (hpl : (backTo pos (starEach es X.env)).any (·.1) = false := by rfl) :
    PE X (.Call (.Name x p) (e :: es) [] pos) (fun σ H Q => Ak σ ∧ lift (w.at' (some cells)) W (eCallL n fF cap fa) σ H Q) := by
  refine ⟨fun pins s σ H Q I h => ?_⟩
  obtain ⟨hAk, ρ, B, sl, μ, rl, rs, o⟩ := h
  refine wpAny_Call_Name_kw (ld_glob I hg hm ?_ hdb)
  refine PySem.W.callWith_K (h₀ := X.base) I.ok.mod.kin hk (thn (ha.run pos pins s σ H (fun vs H1 => ∃ ρ B ds μ, Rl (w.at' (some cells)) ρ B μ H1 ∧ RSl (w.at' (some cells)) ρ B σ sl ∧ Reps (w.at' (some cells)) ρ B vs ds ∧ Out (w.at' (some cells)) (fun c d H' => W c d σ H') (PV (w.at' (some cells))) ρ B H1 (if ds.length = n then (match mapO (sealD cap sl μ fz) ds with
    | some ds' => back0 false μ (fF ds' [])
    | none => .bad) else .bad) Q) I (liftA_k rl rs o fun xs ds ρ2 B2 H2 μ2 _ rl2 rs2 p o2 => ⟨ρ2, B2, ds, μ2, rl2, rs2, p, o2⟩)) fun us s1 ⟨vs, H1, I1, r, q⟩ => ⟨I1.kIn, ?_⟩) he hpl
  obtain ⟨ρ, B, ds, μ, rl, rs, rp, o⟩ := q
  split at o
  rotate_left
  · exact o.elim
  rename_i hlen
  split at o
  rotate_left
  · exact o.elim
  rename_i ds' hseal
  obtain ⟨cs, CK⟩ := hcell pins σ H1 s1 I1 hAk
  have csA := CK.at_
  have hHB : ∀ a, B a ≠ none → ¬ isC cs a := fun a h1 ⟨ob, z⟩ => by
    cases e : B a with
    | none => exact h1 e
    | some u => have := rl.ex a u e; rw [(csA a ob z).1] at this; cases this
  have hRC : ∀ a ∈ ρ, ¬ isC cs a := fun a h1 ⟨ob, z⟩ => rl.there a h1 (csA a ob z).1
  have bp_c : ∀ {c ob}, cs.lookup c = some ob → bPl cs ρ B H1 c = some (cellO ob) := fun {c ob} z => by unfold bPl; rw [z]
  have bp_n : ∀ {a}, ¬ isC cs a → bPl cs ρ B H1 a = if a ∈ ρ ∧ ∃ xs, H1 a = some (.lst xs) then H1 a else B a := fun {a} z => by
    unfold bPl
    cases e : cs.lookup a with
    | none => rfl
    | some ob => exact absurd ⟨ob, e⟩ z
  have bp_B : Ex B (bPl cs ρ B H1) := fun a u h1 => by
    have nr : a ∉ ρ := fun z => by rw [rl.off a z] at h1; cases h1
    rw [bp_n (hHB a (by rw [h1]; exact nofun)), if_neg (fun z => nr z.1)]
    exact h1
  have Ent1 : Ent cs ρ [] B (bPl cs ρ B H1) H1 false := by
    refine ⟨fun a ⟨ob, z⟩ => (csA a ob z).1, fun a z => absurd z (by simp), bp_B, fun a h1 => ?_, fun a h1 h2 => ?_⟩
    · by_cases z : isC cs a
      · exact .inr (.inr z)
      · rw [bp_n z] at h1
        split at h1
        · rename_i y; exact .inr (.inl y.1)
        · exact .inl h1
    · have z := hRC a h1
      rw [bp_n z] at h2
      split at h2
      · rename_i y
        obtain ⟨xs, e1⟩ := y.2
        exact ⟨rfl, xs, by rw [bp_n z, if_pos y, e1], e1⟩
      · exact absurd (rl.off a h1) h2
  have rl0 : Rl w [] (bPl cs ρ B H1) [] (addC cs H1) := by
    refine ⟨fun a u h1 => ?_, List.nodup_nil, fun a z => absurd z (by simp), fun m a h1 => by simp at h1, rfl, fun pq hp => ?_⟩
    · by_cases z : isC cs a
      · obtain ⟨ob, z⟩ := z
        rw [bp_c z] at h1
        rw [addC_c z]; exact h1
      · rw [bp_n z] at h1
        rw [addC_n z]
        split at h1
        · exact h1
        · exact rl.ex a u h1
    · obtain ⟨t1, t2, pv, t3, t4, t5⟩ := rl.tab pq hp
      have z : ¬ isC cs pq.1 := fun ⟨ob, z⟩ => by rw [(csA _ ob z).1] at t3; cases t3
      refine ⟨by simp, by rw [bp_n z, if_neg (fun y => t1 y.1)]; exact t2, pv, by rw [addC_n z]; exact t3, t4, fun p' cv hcv => ?_⟩
      obtain ⟨cc, e1, e2⟩ := t5 p' cv hcv
      exact ⟨cc, e1, bp_B _ _ e2⟩
  have hcp : ∀ j is, cap j = some is → CapAt (bPl cs ρ B H1) (cloFrom cells (w.lamd j).scope.names []) (w.lamd j).frees is σ := fun j is ej => by
    obtain ⟨g1, g2, g3, g4⟩ := CK.cap j is ej
    refine ⟨g1, g2, g3, fun m y i v e1 e2 e3 => ?_⟩
    obtain ⟨c, ob, u, z1, z2, z3, z4⟩ := g4 m y i v e1 e2 e3
    exact ⟨c, ob, u, z1, bp_c z2, z3, z4⟩
  have hlst : ∀ (m : Nat) (a : Addr) xs, ρ[m]? = some a → H1 a = some (.lst xs) → bPl cs ρ B H1 a = some (.lst xs) := fun m a xs h1 h2 => by
    have hm' := mem_of_get h1
    rw [bp_n (hRC a hm'), if_pos ⟨hm', xs, h2⟩, h2]
  have rp' : Reps w [] (bPl cs ρ B H1) vs ds' := reps_map (f := fun d d' => sealD cap sl μ fz d = some d') (fun v d d' r x => seal_ok hcp bp_B hlst rl rs fz r x) rp (mapO_some (fun _ _ x => x) hseal)
  have sp : spF w fF n vs (addC cs H1) (fun v H' => Q v (delC cs H')) (fun k d H' => W k d σ (delC cs H')) :=
    ⟨rp.length.trans hlen, [], _, ds', [], rl0, rp', cross0 (W := fun k d H' => W k d σ H') Ent1 rl o⟩
  have hl : us.length = ps.length := by rw [← r.length]; exact F.len _ _ _ _ sp
  have b := hb s1 us I1.kIn (by rw [List.append_nil]; exact hl)
  rw [List.append_nil] at b
  refine wpAny_call (codeAny_mono (F.run X.A X.stack s1 (addC cs H1) ⟨us, []⟩ us vs _ _ hr (env0_add I1.env0 csA) b r sp) fun r s' hq => ?_)
  have hq := cr_add (Q := Q) (E := fun k d H' => W k d σ H') (fun c ob z => ⟨(csA c ob z).1, (csA c ob z).2.1, (csA c ob z).2.2.1⟩) hq
  cases r with
  | error e => exact (passAt tk σ) pins H1 s1 e s' I1 hq
  | ok fl =>
    cases fl with
    | ret u => exact I1.after hq
    | next => exact False.elim hq
    | brk => exact False.elim hq
    | cont => exact False.elim hq
theorem r_callL (hw : w.cl = none) (F : FnG X.prog X.w X.K X.mg X.base (L2.CX X.prog X.w) k f fd ps (spF w fF n)) (hr : RoomG k X.A) (hg : Gl X x) (hm : X.mg x = some (.ref f)) (hk : PySem.W.keepIn X.K (.ref f) = true) (hb : Binds X.K fd ps []) (tk : Takes X W) (hfn : ∀ y, X.fn y = true)
    (hcap : X.Ok → ∀ j is, cap j = some is → Caps X (cloFrom X.env.cells (w.lamd j).scope.names []) (w.lamd j).frees is) (hnm : ∃ names : List Str, ∀ j is, cap j = some is → ∀ y ∈ (w.lamd j).frees, y ∈ names) (hsub : ∀ j is, cap j = some is → ∀ y, y ∈ (w.lamd j).scope.names → y.2 = .free → y.1 ∈ (w.lamd j).frees)
    (ha : PA X (e :: es) (liftA (w.at' (some X.env.cells)) W fa)) (hdb : (x == ("__debug__" : Str)) = false := by decide) (he : starEach (e :: es) X.env = (false, eval e X.env) :: starEach es X.env := by rfl) (hpl : (backTo pos (starEach es X.env)).any (·.1) = false := by rfl) :
    PE X (.Call (.Name x p) (e :: es) [] pos) (lift (w.at' (some X.env.cells)) W (eCallL n fF cap fa)) :=
  PE_imp (callL_core (Ak := fun _ => True) hw F hr hg hm hk hb tk (fun pins σ H s I _ => by
    obtain ⟨names, hnames⟩ := hnm
    refine ⟨cellsAt X s.heap names, fun c ob z => ?_, fun j is ej => ?_⟩
    · obtain ⟨y, hy, e1, e2⟩ := cellsAt_mem z
      have hge := I.ok.cab y c (hfn y) e1
      refine ⟨I.freeC y c e1, e2, fun hm => ?_, Heap.get?_none_of_le (Nat.le_trans I.ok.bsz hge)⟩
      rcases List.mem_cons.mp (I.stkSub c hm) with z1 | z1
      · exact I.cne y c e1 z1
      · obtain ⟨_, o1, ho1, _⟩ := I.ok.funs.mem z1
        exact absurd (Nat.lt_of_lt_of_le (Heap.lt_size ho1) hge) (Nat.lt_irrefl _)
    · have C := hcap I.ok j is ej
      have D := cells_of I C
      refine ⟨D.inj, fun y c e1 => ?_, ?_, fun m y i v e1 e2 e3 => ?_⟩
      · rcases cloFrom_mem (PySem.mem_of_lookup e1) with hm' | ⟨h1, h2⟩
        · cases hm'
        · exact List.mem_iff_getElem?.mp (hsub j is ej _ h1 rfl)
      · have := D.len
        rw [List.length_map] at this
        exact this
      · obtain ⟨c, z1, z2⟩ := D.has m y e1
        obtain ⟨u, z3, ob, z4, z5⟩ := z2 v (by rw [List.getElem?_map, e2]; exact congrArg some (slotAt_of e3))
        exact ⟨c, ob, u, z1, cellsAt_of (hnames j is ej y (List.mem_of_getElem? e1)) (C.sub y c z1) z4, z5, z3⟩) ha hdb he hpl) fun _ _ _ h => ⟨trivial, h⟩
end
end SC

set_option Elab.async false
set_option linter.all false
set_option maxRecDepth 100000
set_option maxHeartbeats 2000000
namespace SC
open PySem PySem.Spec PyProof.Rows L2 LamX NdefX
/-! ### a lambda's promise -/
def nfOf (L : LamD) (cl : List (Str × Addr)) (c' : Addr) : NF := ⟨"<lambda>", L.qual, L.params, [], L.scope, cl, c'⟩
structure LamOk (P : Program) (wd : World) (K : PySem.W.Frag) (mg : Str → Option Value) (base : Heap) (w : Wo) (k : Nat) (j np : Nat) (f : List AD → Store → R AD) : Prop where
  run : ∀ (A : Around) (outer : List Env) (s : Shared) (H : Hp) (us : List Value) (vs ws : List V) (Q : VK) (E : XK) (fa c' : Addr) (cl : List (Str × Addr)) (pm ctv : Value), RoomG k A → Env0 P wd K mg base A outer s H →
    s.heap.get? fa = some (PySem.W.kla_obj "<lambda>" (w.lamd j).qual (w.lamd j).params (w.lamd j).body (w.lamd j).scope cl pm c' ctv) → H c' = some (CodeO c' (w.lamd j).qual) → CellsAt cl (w.lamd j).frees (ws.map some) s.heap H → Vals vs us → vs.length = np →
    (∃ B ds, Rl w [] B [] H ∧ Reps w [] B (vs ++ ws) ds ∧ Out w (fun c d H' => E c d H') (PV w) [] B H (f ds []) Q) → codeAny (model P wd) A (.call (.ref fa) ⟨us, []⟩) (CR (L2.CX P wd) outer P wd H s Q E) s
section
variable {P : Program} {wd : World} {K : PySem.W.Frag} {mg : Str → Option Value} {base : Heap} {w : Wo} {k j n np : Nat} {fe : SE} {N ps : List Str}
theorem lam_ok (S : NScope N ps (w.lamd j).frees (w.lamd j).scope) (hn : N.length = n) (hp : ps.length = np)
    (hb : ∀ (q : Str) (cl : List (Str × Addr)) (pm cv ctv : Value) (us : List Value), us.length = np → bindArgs (PySem.W.kla_fn "<lambda>" q (w.lamd j).params (w.lamd j).body (w.lamd j).scope cl pm cv ctv) ⟨us, []⟩ = pure (ps.zip us))
    (hbody : ∀ (A : Around) (outer : List Env) (s : Shared) (H : Hp) (E : XK) (fa c' : Addr) (cl : List (Str × Addr)), RoomG k (A.deeper (envF (nfOf (w.lamd j) cl c') fa s.heap.objs.size)) → PE (ncx (L2.CX P wd) P wd K mg base N (nfOf (w.lamd j) cl c') fa A outer s H E) (w.lamd j).body (lift w (fun c d _ H' => E c d H') fe)) :
    LamOk P wd K mg base w (k + 1) j np (fun ds μ => fe (startS n ds) μ) := by
  refine ⟨fun A outer s H us vs ws Q E fa c' cl pm ctv hr e0 hf hc C r hl hsp => ?_⟩
  have lim : s.heap.NoLimit := e0.mod.nolimit.keeps fun b o e => (e0.bs b o e).1
  refine PySem.W.kla_callFunE hr.depth hf rfl S.co S.gen rfl (codeO_at e0.hok hc) ?_
  rw [hb _ cl pm _ ctv us (by rw [← r.length]; exact hl)]
  refine wpAny_pure (wpAny_newFunctionEnv S.nocell (fun ⟨n, _⟩ hy => S.par n (List.of_mem_zip hy).1) (fun h₁ hns hsb => ⟨lim.fresh _ hsb, ?_⟩) S.kind)
  show codeAny _ _ (.expr (w.lamd j).body (envF (nfOf (w.lamd j) cl c') fa s.heap.objs.size)) _ _
  have kp : ∀ b o, s.heap.get? b = some o → h₁.get? b = some o := fun b o e => hsb.extBut b o (Nat.ne_of_lt (Heap.lt_size e)) (Heap.get?_push_of_some _ e)
  have I : Inv (ncx (L2.CX P wd) P wd K mg base N (nfOf (w.lamd j) cl c') fa A outer s H E) [] (startF N vs (ws.map some)) H { s with heap := h₁, toks := s.toks + (ps.zip us).length } := inv_startN (F := nfOf (w.lamd j) cl c') S hr.hd e0 (hl.trans hp.symm) r C hns kp
  obtain ⟨B, ds, rl, rp, o⟩ := hsp
  have hst : startF N vs (ws.map some) = L2.start N (vs ++ ws) := by
    unfold startF L2.start
    rw [List.map_append, List.append_assoc, List.length_map, List.length_append, Nat.sub_sub]
  have rs : RSl w [] B (startF N vs (ws.map some)) (startS n ds) := by
    rw [hst]
    exact rsl_start hn rp
  refine PySem.W.kla_codeExpr (wpAny_mono ((hbody A outer s H E fa c' cl (hr.deeper' _)).run [] _ _ H Q I ⟨[], B, _, [], rl, rs, o⟩) (fun v s' hq => ?_) fun e s' hq => hq)
  obtain ⟨v', H', J, rv, q⟩ := hq
  exact ⟨v', H', J.os, J.bare, J.base, J.hok, rv, q⟩
end
/-! ### a lambda called -/
def lamC (np : Nat) (f : List AD → Store → R AD) (caps ds : List AD) (μ : Store) : R AD := if ds.length = np then (match mapO (frzD true μ.length μ fz) ds with
  | some ds' => (match mapO (frzD true μ.length μ fz) caps with
    | some caps' => back0 true μ (f (ds' ++ caps') [])
    | none => .bad)
  | none => .bad) else .bad
section
variable {w : Wo} {c : Option (List (Str × Addr))} {cs : List (Addr × Obj)} {ρ : List Addr} {B H : Hp} {μ : Store}
open Classical in
noncomputable def bMi (cs : List (Addr × Obj)) (ρ ρ' : List Addr) (B' H' : Hp) : Hp := fun b => match cs.lookup b with
  | some o => some (cellO o)
  | none => if b ∈ ρ then none else if b ∈ ρ' then H' b else B' b
open Classical in
theorem crossM (hc : ∀ a o, cs.lookup a = some o → B a = some (cellO o)) (r : Rl (w.at' c) ρ B μ H) {W : Value → Option Addr → Hp → Prop} {Q : VK} {res : R AD} (o : Out (w.at' c) W (PV (w.at' c)) ρ B H (back0 true μ res) Q) :
    Out w (fun k d H' => (∀ a, isC cs a → H' a = none) → W k d (addC cs H')) (PV w) [] (delC cs B) (delC cs H) res (fun v H' => (∀ a, isC cs a → H' a = none) → Q v (addC cs H')) := by
  have hcr : ∀ a ∈ ρ, ¬ isC cs a := fun a h ⟨ob, z⟩ => by have := r.off a h; rw [hc a ob z] at this; cases this
  have hcH : ∀ a ob, cs.lookup a = some ob → H a = some (cellO ob) := fun a ob z => r.ex a _ (hc a ob z)
  have main : ∀ ρ' B' H' μ', Le [] (delC cs B) (delC cs H) ρ' B' H' → Rl w ρ' B' μ' H' → (∀ a, isC cs a → H' a = none) →
      (Rl (w.at' c) ρ (bMi cs ρ ρ' B' H') μ (addC cs H') ∧ Le ρ B H ρ (bMi cs ρ ρ' B' H') (addC cs H')) ∧ (∀ a ob, B' a = some ob → bMi cs ρ ρ' B' H' a = some ob) ∧ (∀ a ob, a ∈ ρ' → H' a = some ob → bMi cs ρ ρ' B' H' a = some ob) := by
    intro ρ' B' H' μ' l r' nz
    have bc : ∀ {a ob}, cs.lookup a = some ob → bMi cs ρ ρ' B' H' a = some (cellO ob) := fun {a ob} z => by unfold bMi; rw [z]
    have bn : ∀ {a}, ¬ isC cs a → bMi cs ρ ρ' B' H' a = if a ∈ ρ then none else if a ∈ ρ' then H' a else B' a := fun {a} z => by
      unfold bMi
      cases e : cs.lookup a with
      | none => rfl
      | some ob => exact absurd ⟨ob, e⟩ z
    have Bn : ∀ a, B' a ≠ none → ¬ isC cs a := fun a h z => by
      cases e : B' a with
      | none => exact h e
      | some u => have := r'.ex a u e; rw [nz a z] at this; cases this
    have Bρ : ∀ a, B' a ≠ none → a ∉ ρ := fun a h z => by
      have nc := hcr a z
      rcases l.fresh a h with q | q
      · rw [delC_n nc] at q; exact q (r.off a z)
      · rw [delC_n nc] at q; exact r.there a z q
    have ρn : ∀ a ∈ ρ', ¬ isC cs a := fun a h z => r'.there a h (nz a z)
    have ρρ : ∀ a ∈ ρ', a ∉ ρ := fun a h z => by
      rcases l.freshR a h with q | q
      · exact absurd q (by simp)
      · rw [delC_n (hcr a z)] at q; exact r.there a z q
    have keepB : ∀ a ob, B' a = some ob → bMi cs ρ ρ' B' H' a = some ob := fun a ob h => by
      have n0 : B' a ≠ none := by rw [h]; exact nofun
      rw [bn (Bn a n0), if_neg (Bρ a n0), if_neg (fun z => by rw [r'.off a z] at h; cases h)]
      exact h
    have keepR : ∀ a ob, a ∈ ρ' → H' a = some ob → bMi cs ρ ρ' B' H' a = some ob := fun a ob h1 h2 => by
      rw [bn (ρn a h1), if_neg (ρρ a h1), if_pos h1]
      exact h2
    have keepH : ∀ a ob, (∀ ps, ob ≠ .tbl ps) → H a = some ob → addC cs H' a = some ob := fun a ob ht h => by
      by_cases z : isC cs a
      · obtain ⟨o', z⟩ := z
        rw [hcH a o' z] at h; cases h
        exact addC_c z
      · rw [addC_n z]
        exact l.keep a ob (by simp) ht (by rw [delC_n z]; exact h)
    have neH : ∀ a, H a ≠ none → addC cs H' a ≠ none := fun a h => by
      by_cases z : isC cs a
      · obtain ⟨o', z⟩ := z
        rw [addC_c z]; exact nofun
      · rw [addC_n z]
        exact l.ne a (by rw [delC_n z]; exact h)
    have exB : Ex B (bMi cs ρ ρ' B' H') := fun a u h => by
      by_cases z : isC cs a
      · obtain ⟨o', z⟩ := z
        rw [hc a o' z] at h; cases h
        exact bc z
      · exact keepB a u (l.ex a u (by rw [delC_n z]; exact h))
    refine ⟨⟨⟨fun a u h => ?_, r.nd, fun a h => ?_, fun m a h => ?_, r.len, fun p hp => ?_⟩, ⟨Pre.rfl' _, exB, fun a ob _ ht h => keepH a ob ht h, neH, fun a h => ?_, fun a h => .inl h, fun a h => neH a (r.there a h)⟩⟩, keepB, keepR⟩
    · by_cases z : isC cs a
      · obtain ⟨o', z⟩ := z
        rw [bc z] at h
        rw [addC_c z]; exact h
      · rw [bn z] at h
        rw [addC_n z]
        split at h
        · cases h
        · split at h
          · exact h
          · exact r'.ex a u h
    · rw [bn (hcr a h), if_pos h]
    · obtain ⟨ob, e1, e2⟩ := r.obj m a h
      refine ⟨ob, e1, e2.mono exB (Pre.rfl' _) ?_⟩
      cases e : H a with
      | none => exact absurd e e2.some
      | some u => exact keepH a u (fun ps z => e2.tbl ps (by rw [e, z])) e
    · obtain ⟨t1, t2, ps, t3, t4, t5⟩ := r'.tab p hp
      obtain ⟨u1, u2, ps0, u3, _⟩ := r.tab p hp
      have nc : ¬ isC cs p.1 := fun ⟨o', z⟩ => by rw [hcH _ o' z] at u3; cases u3
      refine ⟨u1, ?_, ps, by rw [addC_n nc]; exact t3, t4, fun pos cv hcv => ?_⟩
      · rw [bn nc, if_neg u1, if_neg t1]; exact t2
      · obtain ⟨cc, e1, e2⟩ := t5 pos cv hcv
        exact ⟨cc, e1, keepB _ _ e2⟩
    · by_cases z : isC cs a
      · obtain ⟨o', z⟩ := z
        exact .inl (by rw [hc a o' z]; exact nofun)
      · rw [bn z] at h
        split at h
        · exact absurd rfl h
        · rename_i nr
          split at h
          · rename_i hm
            rcases l.freshR a hm with q | q
            · exact absurd q (by simp)
            · rw [delC_n z] at q; exact .inr q
          · rcases l.fresh a h with q | q
            · rw [delC_n z] at q; exact .inl q
            · rw [delC_n z] at q; exact .inr q
  cases res with
  | ok d μ' =>
    intro ρ' B' H' v l r' p nz
    unfold back0 at o
    simp only at o
    cases e : frzD true 0 μ' fz d with
    | none => rw [e] at o; exact o.elim
    | some d' =>
      rw [e] at o
      obtain ⟨⟨a, b⟩, k1, k2⟩ := main ρ' B' H' μ' l r' nz
      exact o _ _ _ _ b a (frz_out (fun a ob h _ _ => k1 a ob h) (fun _ m a ob _ h1 h2 => k2 a ob (mem_of_get h1) h2) r'.obj fz p e)
  | exc kc d μ' =>
    intro ρ' B' H' dx v l r' h1 p nz
    unfold back0 at o
    simp only at o
    cases e : frzD true 0 μ' fz d with
    | none => rw [e] at o; exact o.elim
    | some d' =>
      rw [e] at o
      obtain ⟨⟨a, b⟩, k1, k2⟩ := main ρ' B' H' μ' l r' nz
      exact o _ _ _ dx v b a (k1 dx _ h1) (frz_out (fun a ob h _ _ => k1 a ob h) (fun _ m a ob _ h1 h2 => k2 a ob (mem_of_get h1) h2) r'.obj fz p e)
  | bad => exact o
end
/-- the lambdas that may come -/
def eLamC (i : Nat) (lf : Nat → Option (Nat × (List AD → Store → R AD))) (fa : SA) : SE := fun s μ => match s[i]? with
  | some (some (.lamS j caps)) => (fa s μ).bind fun ds μ1 => (match lf j with
    | some (np, f) => lamC np f caps ds μ1
    | none => .bad)
  | _ => .bad
section
variable {X : Cx} {w : Wo} {c : Option (List (Str × Addr))} {W : WX} {k : Nat} {lf : Nat → Option (Nat × (List AD → Store → R AD))}
/-- the call itself -/
theorem lam_run (hw : w.cl = none) {j np : Nat} {f : List AD → Store → R AD} (L : LamOk X.prog X.w X.K X.mg X.base w k j np f) (hr : RoomG k X.A) (tk : Takes X W) {pins : List (Addr × Obj)} {s : Shared} {σ : L2.St} {H : Hp} {Q : VK} {fa : Addr} {us : List Value} {vs : List V} {caps ds : List AD} {ρ : List Addr} {B : Hp} {μ : Store}
    (I : Inv X pins σ H s) (rl : Rl (w.at' c) ρ B μ H) (rf : Rep (w.at' c) ρ B (.ref fa) (.lamS j caps)) (rp : Reps (w.at' c) ρ B vs ds) (r : Vals vs us) (o : Out (w.at' c) (fun k d H' => W k d σ H') (PV (w.at' c)) ρ B H (lamC np f caps ds μ) Q) :
    wpAny (model X.prog X.w) X.A (call (.ref fa) us) (EP X pins σ Q) X.xe s := by
  cases rf with
  | @lamS _ c' _ pm ctv cl ws _ h1 h2 h3 q =>
    unfold lamC at o
    split at o
    rotate_left
    · exact o.elim
    rename_i hlen
    split at o
    rotate_left
    · exact o.elim
    rename_i ds' hds
    split at o
    rotate_left
    · exact o.elim
    rename_i caps' hcaps
    obtain ⟨ho, _, _⟩ := I.hok fa _ (rl.ex _ _ h1)
    generalize hcs : (w.lamd j).frees.filterMap (fun x => (cl.lookup x).bind fun c => (s.heap.get? c).map fun o => (c, o)) = cs
    have mem : ∀ {c ob}, cs.lookup c = some ob → ∃ x ∈ (w.lamd j).frees, cl.lookup x = some c ∧ s.heap.get? c = some ob := fun {c ob} z => by
      have := look_of z
      rw [← hcs, List.mem_filterMap] at this
      obtain ⟨x, hx, e⟩ := this
      cases e1 : cl.lookup x with
      | none => rw [e1] at e; cases e
      | some c' =>
        rw [e1] at e
        cases e2 : s.heap.get? c' with
        | none => rw [Option.bind_some, e2] at e; cases e
        | some o' => rw [Option.bind_some, e2] at e; cases e; exact ⟨x, hx, e1, e2⟩
    have csB : ∀ c ob, cs.lookup c = some ob → B c = some (cellO ob) := fun c ob z => by
      obtain ⟨x, hx, e1, e2⟩ := mem z
      obtain ⟨m, hm⟩ := List.mem_iff_getElem?.mp hx
      obtain ⟨c2, o2, v2, u2, y1, y2, y3, y4, y5⟩ := h3.2.2.2 m x hm
      rw [e1] at y1; cases y1
      obtain ⟨z1, _⟩ := I.hok c _ (rl.ex _ _ y2)
      rw [e2] at z1; cases z1
      exact y2
    have csH : ∀ c ob, cs.lookup c = some ob → H c = some (cellO ob) ∧ s.heap.get? c = some ob ∧ c ∉ frs X.stack := fun c ob z => by
      have hH := rl.ex _ _ (csB c ob z)
      obtain ⟨x, hx, e1, e2⟩ := mem z
      exact ⟨hH, e2, fun hm => by rw [I.stkFree c hm] at hH; cases hH⟩
    have CA : CellsAt cl (w.lamd j).frees (ws.map some) s.heap (delC cs H) := by
      have cell : ∀ (m : Nat) (x : Str), (w.lamd j).frees[m]? = some x → ∃ c o v u, cl.lookup x = some c ∧ cs.lookup c = some o ∧ o.data = .cell (some u) ∧ ws[m]? = some v ∧ RelV v u ∧ s.heap.get? c = some o := fun m x hm => by
        obtain ⟨c2, o2, v2, u2, y1, y2, y3, y4, y5⟩ := h3.2.2.2 m x hm
        obtain ⟨z1, _⟩ := I.hok c2 _ (rl.ex _ _ y2)
        have hmem : (c2, o2) ∈ cs := by
          rw [← hcs, List.mem_filterMap]
          exact ⟨x, List.mem_of_getElem? hm, by rw [y1, Option.bind_some, z1]; rfl⟩
        obtain ⟨o3, ho3⟩ := look_is hmem
        have := (csH c2 o3 ho3).2.1
        rw [z1] at this; cases this
        exact ⟨c2, o2, v2, u2, y1, ho3, y3, y4, y5, z1⟩
      refine ⟨by rw [List.length_map]; exact h3.2.2.1, fun y cc e => ?_, h3.1, fun m y hm => ?_⟩
      · obtain ⟨m, hm⟩ := h3.2.1 y cc e
        obtain ⟨c2, o2, v2, u2, y1, y2, y3, y4, y5, z1⟩ := cell m y hm
        rw [e] at y1; cases y1
        exact ⟨delC_c ⟨_, y2⟩, some u2, o2, z1, y3⟩
      · obtain ⟨c2, o2, v2, u2, y1, y2, y3, y4, y5, z1⟩ := cell m y hm
        refine ⟨c2, y1, fun v hv => ?_⟩
        rw [List.getElem?_map, y4] at hv
        cases hv
        exact ⟨u2, y5, o2, z1, y3⟩
    have keepB : ∀ a ob, B a = some ob → (∀ o', ob ≠ cellO o') → delC cs B a = some ob := fun a ob h n => by
      rw [delC_n (fun ⟨o', z⟩ => by rw [csB a o' z] at h; cases h; exact n o' rfl)]
      exact h
    have rl0 : Rl w [] (delC cs B) [] (delC cs H) := by
      refine ⟨fun a u h => ?_, List.nodup_nil, fun a z => absurd z (by simp), fun m a h1 => by simp at h1, rfl, fun pq hp => ?_⟩
      · by_cases z : isC cs a
        · rw [delC_c z] at h; cases h
        · rw [delC_n z] at h ⊢; exact rl.ex a u h
      · obtain ⟨t1, t2, pv, t3, t4, t5⟩ := rl.tab pq hp
        have z : ¬ isC cs pq.1 := fun ⟨o', z⟩ => by rw [(csH _ o' z).1] at t3; cases t3
        refine ⟨by simp, by rw [delC_n z]; exact t2, pv, by rw [delC_n z]; exact t3, t4, fun p' cv hcv => ?_⟩
        obtain ⟨cc, e1, e2⟩ := t5 p' cv hcv
        exact ⟨cc, e1, keepB _ _ e2 fun o' z => by unfold CodeO cellO at z; cases z⟩
    have conv : ∀ {xs : List V} {es es' : List AD}, Reps (w.at' c) ρ B xs es → mapO (frzD true μ.length μ fz) es = some es' → Reps w [] (delC cs B) xs es' := fun {xs es es'} p z =>
      reps_map (f := fun d d' => frzD true μ.length μ fz d = some d') (fun v d d' p x => by
        have := frz_out (w := w.at' c) (c := none) (ρ' := []) (L := true) (fun a ob h h' _ => keepB a ob h h') (fun _ m a ob hm h1 _ => by
          have := (List.getElem?_eq_some_iff.mp h1).1
          rw [rl.len] at this
          omega) rl.obj fz p x
        rw [at_at, at_self w hw] at this
        exact this) p (mapO_some (fun _ _ x => x) z)
    have hc0 : delC cs H c' = some (CodeO c' (w.lamd j).qual) := by
      rw [delC_n (fun ⟨o', z⟩ => by have := (csH c' o' z).1; rw [rl.ex _ _ h2] at this; unfold CodeO cellO at this; cases this)]
      exact rl.ex _ _ h2
    refine wpAny_call (codeAny_mono (L.run X.A X.stack s (delC cs H) us vs ws (fun v H' => (∀ a, isC cs a → H' a = none) → Q v (addC cs H')) (fun kc d H' => (∀ a, isC cs a → H' a = none) → W kc d σ (addC cs H')) fa c' cl pm ctv hr (env0_del I.env0 fun cc ob z => (csH cc ob z).1) ho hc0 CA r (rp.length.trans hlen) ⟨delC cs B, ds' ++ caps', rl0, (conv rp hds).append (conv q hcaps), crossM (W := fun kc d H' => W kc d σ H') csB rl o⟩) fun r s' hq => ?_)
    have hq := cr_del (Q := Q) (E := fun k d H' => W k d σ H') csH hq
    cases r with
    | error e => exact (passAt tk σ) pins H s e s' I hq
    | ok fl =>
      cases fl with
      | ret u => exact I.after hq
      | next => exact False.elim hq
      | brk => exact False.elim hq
      | cont => exact False.elim hq
theorem fnAt_lam {pins : List (Addr × Obj)} {σ : L2.St} {H : Hp} {s : Shared} {ρ : List Addr} {B : Hp} {μ : Store} {fa : Addr} {j : Nat} {caps : List AD} (I : Inv X pins σ H s) (rl : Rl (w.at' c) ρ B μ H) (rf : Rep (w.at' c) ρ B (.ref fa) (.lamS j caps)) : PySem.W.FnAt fa s.heap := by
  cases rf with
  | lamS h1 h2 h3 q =>
    obtain ⟨ho, _, _⟩ := I.hok fa _ (rl.ex _ _ h1)
    exact ⟨_, _, _, _, ho⟩
theorem r_lamC0 {i : Nat} {a : Str} {p1 p2 : Pos} (hw : w.cl = none) (hL : ∀ j np f, lf j = some (np, f) → LamOk X.prog X.w X.K X.mg X.base w k j np f) (hr : RoomG k X.A) (tk : Takes X W) (hN : X.N[i]? = some a := by rfl) (hv : Vis X.env.scope a := by first | exact Or.inl rfl | exact Or.inr (Or.inl rfl) | exact Or.inr (Or.inr rfl)) (hd : (a == ("__debug__" : Str)) = false := by decide) (hcd : (a == ("__classdict__" : Str)) = false := by decide) :
    PE X (.Call (.Name a p1) [] [] p2) (lift (w.at' c) W (eLamC i lf aNil)) := by
  refine ⟨fun pins s σ H Q I h => ?_⟩
  obtain ⟨ρ, B, sl, μ, rl, rs, o⟩ := h
  unfold eLamC at o
  split at o
  rotate_left
  · exact o.elim
  rename_i j caps es
  obtain ⟨v, hv1, rv⟩ := rs.get es
  obtain ⟨fa, rfl⟩ : ∃ fa, v = .ref fa := by cases rv; exact ⟨_, rfl⟩
  refine wpAny_Call_Name_kw (thn ((pe_var (pos := p1) (i := i) hN hv hd hcd).run pins s σ H (fun v H1 => v = .ref fa ∧ H1 = H) I ⟨.ref fa, hv1, rfl, rfl⟩) fun u s1 ⟨v, H1, I1, r1, q1⟩ => ?_)
  obtain ⟨ev, eH⟩ := q1
  subst ev
  rw [eH] at I1
  obtain rfl : u = Value.ref fa := r1
  refine PySem.W.callWith_F0 (fnAt_lam I1 rl rv) ?_
  simp only [aNil, R.bind] at o
  cases el : lf j with
  | none => rw [el] at o; exact o.elim
  | some q =>
    obtain ⟨np, f⟩ := q
    rw [el] at o
    exact lam_run (us := []) (vs := []) hw (hL j np f el) hr tk I1 rl rv .nil .nil o
theorem r_lamC {i : Nat} {a : Str} {p1 p2 : Pos} {e : Expr} {es : List Expr} {fa' : SA} (hw : w.cl = none) (hL : ∀ j np f, lf j = some (np, f) → LamOk X.prog X.w X.K X.mg X.base w k j np f) (hr : RoomG k X.A) (tk : Takes X W) (ha : PA X (e :: es) (liftA (w.at' c) W fa')) (hN : X.N[i]? = some a := by rfl) (hv : Vis X.env.scope a := by first | exact Or.inl rfl | exact Or.inr (Or.inl rfl) | exact Or.inr (Or.inr rfl)) (hd : (a == ("__debug__" : Str)) = false := by decide) (hcd : (a == ("__classdict__" : Str)) = false := by decide)
    (he : starEach (e :: es) X.env = (false, eval e X.env) :: starEach es X.env := by rfl) (hpl : (backTo p2 (starEach es X.env)).any (·.1) = false := by rfl) :
    PE X (.Call (.Name a p1) (e :: es) [] p2) (lift (w.at' c) W (eLamC i lf fa')) := by
  refine ⟨fun pins s σ H Q I h => ?_⟩
  obtain ⟨ρ, B, sl, μ, rl, rs, o⟩ := h
  unfold eLamC at o
  split at o
  rotate_left
  · exact o.elim
  rename_i j caps es'
  obtain ⟨v, hv1, rv⟩ := rs.get es'
  obtain ⟨fa, rfl⟩ : ∃ fa, v = .ref fa := by cases rv; exact ⟨_, rfl⟩
  refine wpAny_Call_Name_kw (thn ((pe_var (pos := p1) (i := i) hN hv hd hcd).run pins s σ H (fun v H1 => v = .ref fa ∧ H1 = H) I ⟨.ref fa, hv1, rfl, rfl⟩) fun u s1 ⟨v, H1, I1, r1, q1⟩ => ?_)
  obtain ⟨ev, eH⟩ := q1
  subst ev
  rw [eH] at I1
  obtain rfl : u = Value.ref fa := r1
  refine PySem.W.callWith_F (fnAt_lam I1 rl rv) (thn (ha.run p2 pins s1 σ H (fun vs H2 => ∃ ρ2 B2 ds μ2, Le ρ B H ρ2 B2 H2 ∧ Rl (w.at' c) ρ2 B2 μ2 H2 ∧ Reps (w.at' c) ρ2 B2 vs ds ∧ Out (w.at' c) (fun c d H' => W c d σ H') (PV (w.at' c)) ρ2 B2 H2 (match lf j with
    | some (np, f) => lamC np f caps ds μ2
    | none => .bad) Q) I1 (liftA_k rl rs o fun xs ds ρ2 B2 H2 μ2 l2 rl2 rs2 p o2 => ⟨ρ2, B2, ds, μ2, l2, rl2, p, o2⟩)) fun us s2 ⟨vs, H2, I2, r2, q2⟩ => ?_) he hpl
  obtain ⟨ρ2, B2, ds, μ2, l2, rl2, rp, o2⟩ := q2
  have rv2 := rv.mono l2.ex l2.pre
  refine ⟨fnAt_lam I2 rl2 rv2, ?_⟩
  cases el : lf j with
  | none => rw [el] at o2; exact o2.elim
  | some q =>
    obtain ⟨np, f⟩ := q
    rw [el] at o2
    exact lam_run hw (hL j np f el) hr tk I2 rl2 rv2 rp r2 o2
end
end SC

set_option Elab.async false
set_option linter.all false
set_option maxRecDepth 100000
set_option maxHeartbeats 2000000
namespace SC
open PySem PySem.Spec PyProof.Rows L2 LamX NdefX
/-! ### a def that makes lambdas -/
def noR : Nat → AD → Bool
  | 0, _ => false
  | k + 1, d => match d with
    | .lamR _ => false
    | .tup ds => ds.all (noR k)
    | .lst ds => ds.all (noR k)
    | .scr ds => ds.all (noR k)
    | .lamS _ ds => ds.all (noR k)
    | .exc _ d => noR k d
    | _ => true
def sanO : AO → Option AO
  | .lst ds => some (if ds.all (noR fz) then .lst ds else .any)
  | .dct kvs => if kvs.all (fun p => noR fz p.2) then some (.dct kvs) else none
  | .any => some .any
section
variable {w : Wo} {c : Option (List (Str × Addr))} {ρ : List Addr} {B H : Hp} {μ : Store}
theorem noR_down : ∀ (k : Nat) {v : V} {d : AD}, Rep (w.at' c) ρ B v d → noR k d = true → Rep w ρ B v d
  | 0, _, _, _, h => absurd h (by simp [noR])
  | k + 1, v, d, r, h => by
    have go : ∀ {vs : List V} {ds : List AD}, Reps (w.at' c) ρ B vs ds → ds.all (noR k) = true → Reps w ρ B vs ds := fun {vs ds} q z => by
      induction ds generalizing vs with
      | nil => cases q; exact .nil
      | cons a r ih =>
        cases q with
        | cons r1 q1 =>
          rw [List.all_cons, Bool.and_eq_true] at z
          exact .cons (noR_down k r1 z.1) (ih q1 z.2)
    cases r with
    | non => exact .non
    | bl b => exact .bl b
    | int b => exact .int b
    | str b => exact .str b
    | ty b => exact .ty b
    | tup s q => exact .tup s (go q h)
    | lst s q => exact .lst s (go q h)
    | scr s q => exact .scr s (go q h)
    | ref s => exact .ref s
    | exc h1 h2 q => exact .exc h1 h2 (noR_down k q h)
    | lamR h0 h1 h2 => exact absurd h (by simp [noR])
    | lamS h1 h2 h3 q => exact .lamS h1 h2 h3 (go q h)
theorem noR_downs : ∀ {vs : List V} {ds : List AD}, Reps (w.at' c) ρ B vs ds → ds.all (noR fz) = true → Reps w ρ B vs ds
  | _, _, .nil, _ => .nil
  | _, _, .cons r q, z => by
    rw [List.all_cons, Bool.and_eq_true] at z
    exact .cons (noR_down fz r z.1) (noR_downs q z.2)
mutual
theorem Rep.up (hw : w.cl = none) : ∀ {v : V} {d : AD}, Rep w ρ B v d → Rep (w.at' c) ρ B v d
  | _, _, .non => .non
  | _, _, .bl b => .bl b
  | _, _, .int i => .int i
  | _, _, .str x => .str x
  | _, _, .ty n => .ty n
  | _, _, .tup h q => .tup h (Reps.up hw q)
  | _, _, .lst h q => .lst h (Reps.up hw q)
  | _, _, .scr h q => .scr h (Reps.up hw q)
  | _, _, .ref h => .ref h
  | _, _, .exc h1 h2 q => .exc h1 h2 (Rep.up hw q)
  | _, _, .lamR h0 _ _ => by rw [hw] at h0; cases h0
  | _, _, .lamS h1 h2 h3 q => .lamS h1 h2 h3 (Reps.up hw q)
theorem Reps.up (hw : w.cl = none) : ∀ {vs : List V} {ds : List AD}, Reps w ρ B vs ds → Reps (w.at' c) ρ B vs ds
  | _, _, .nil => .nil
  | _, _, .cons h q => .cons (Rep.up hw h) (Reps.up hw q)
end
theorem KReps.up (hw : w.cl = none) : ∀ {ks : List (Key × V)} {kvs : List (AD × AD)}, KReps w ρ B ks kvs → KReps (w.at' c) ρ B ks kvs
  | [], [], _ => trivial
  | [], _ :: _, h => h.elim
  | _ :: _, [], h => h.elim
  | (_, _) :: _, (_, _) :: _, ⟨h1, h2, h3⟩ => ⟨h1, h2.up hw, KReps.up hw h3⟩
theorem KReps.down : ∀ {ks : List (Key × V)} {kvs : List (AD × AD)}, KReps (w.at' c) ρ B ks kvs → kvs.all (fun p => noR fz p.2) = true → KReps w ρ B ks kvs
  | [], [], _, _ => trivial
  | [], _ :: _, h, _ => h.elim
  | _ :: _, [], h, _ => h.elim
  | (_, _) :: _, (_, _) :: _, ⟨h1, h2, h3⟩, z => by
    rw [List.all_cons, Bool.and_eq_true] at z
    exact ⟨h1, noR_down fz h2 z.1, KReps.down h3 z.2⟩
theorem okK_any {w2 : Wo} (hK : w2.K = w.K) : ∀ (k : Nat) {v : V} {d : AD}, Rep w ρ B v d → okK k d = true → Rep w2 ρ B v d
  | 0, v, d, r, h => by
    cases r with
    | non => exact .non
    | bl b => exact .bl b
    | int b => exact .int b
    | str b => exact .str b
    | _ => exact absurd h (by simp [okK])
  | k + 1, v, d, r, h => by
    have go : ∀ {vs : List V} {ds : List AD}, Reps w ρ B vs ds → ds.all (okK k) = true → Reps w2 ρ B vs ds := fun {vs ds} q z => by
      induction ds generalizing vs with
      | nil => cases q; exact .nil
      | cons a r ih =>
        cases q with
        | cons r1 q1 =>
          rw [List.all_cons, Bool.and_eq_true] at z
          exact .cons (okK_any hK k r1 z.1) (ih q1 z.2)
    cases r with
    | non => exact .non
    | bl b => exact .bl b
    | int b => exact .int b
    | str b => exact .str b
    | tup s q => exact .tup (hK.symm ▸ s) (go q h)
    | _ => exact absurd h (by simp [okK])
theorem DReps.up (hw : w.cl = none) : ∀ {xs : List (NestedKey × Addr × V)} {kvs : List (AD × AD)}, DReps w ρ B xs kvs → DReps (w.at' c) ρ B xs kvs
  | [], [], _ => trivial
  | [], _ :: _, h => h.elim
  | _ :: _, [], h => h.elim
  | (_, _, _) :: _, (_, _) :: _, ⟨h1, h2, h3, h4, h5⟩ => ⟨h1.up hw, h2, h3, h4.up hw, DReps.up hw h5⟩
theorem DReps.down : ∀ {xs : List (NestedKey × Addr × V)} {kvs : List (AD × AD)}, DReps (w.at' c) ρ B xs kvs → kvs.all (fun p => noR fz p.2) = true → DReps w ρ B xs kvs
  | [], [], _, _ => trivial
  | [], _ :: _, h, _ => h.elim
  | _ :: _, [], h, _ => h.elim
  | (_, _, _) :: _, (_, _) :: _, ⟨h1, h2, h3, h4, h5⟩, z => by
    rw [List.all_cons, Bool.and_eq_true] at z
    exact ⟨okK_any (w := w.at' c) (w2 := w) rfl 8 h1 h2, h2, h3, noR_down fz h4 z.1, DReps.down h5 z.2⟩
theorem Rl.up (hw : w.cl = none) (r : Rl w ρ B μ H) : Rl (w.at' c) ρ B μ H :=
  ⟨r.ex, r.nd, r.off, fun n a h => by
    obtain ⟨o, e1, e2⟩ := r.obj n a h
    refine ⟨o, e1, ?_⟩
    cases o with
    | lst ds => obtain ⟨vs, h1, h2⟩ := e2; exact ⟨vs, h1, h2.up hw⟩
    | dct kvs =>
      rcases e2 with ⟨ks, h1, h2⟩ | e2
      · exact .inl ⟨ks, h1, h2.up hw⟩
      · obtain ⟨xs, h1, h2, h3⟩ := e2
        exact .inr ⟨xs, h1, h2.up hw, h3⟩
    | any => exact e2, r.len, r.tab⟩
theorem Rl.down {μ' : Store} (r : Rl (w.at' c) ρ B μ H) (h : mapO sanO μ = some μ') : Rl w ρ B μ' H := by
  obtain ⟨g1, g2⟩ := mapO_get h
  refine ⟨r.ex, r.nd, r.off, fun n a hn => ?_, r.len.trans g1.symm, r.tab⟩
  obtain ⟨o, e1, e2⟩ := r.obj n a hn
  obtain ⟨o', k1, k2⟩ := g2 n o e1
  refine ⟨o', k1, ?_⟩
  cases o with
  | lst ds =>
    obtain ⟨vs, h1, h2⟩ := e2
    simp only [sanO] at k2
    cases k2
    split
    · rename_i z; exact ⟨vs, h1, noR_downs h2 z⟩
    · exact ⟨vs, h1⟩
  | dct kvs =>
    simp only [sanO] at k2
    split at k2
    · cases k2
      rename_i z
      rcases e2 with ⟨ks, h1, h2⟩ | e2
      · exact .inl ⟨ks, h1, h2.down z⟩
      · obtain ⟨xs, h1, h2, h3⟩ := e2
        exact .inr ⟨xs, h1, h2.down z, h3⟩
    · cases k2
  | any => cases k2; exact e2
theorem rsl_up (hw : w.cl = none) : ∀ {σ : L2.St} {s : Slots}, RSl w ρ B σ s → RSl (w.at' c) ρ B σ s
  | _, _, .nil => .nil
  | _, _, .some r q => .some (r.up hw) (rsl_up hw q)
  | _, _, .none q => .none (rsl_up hw q)
end
def R.san (r : SR) : R AD := match r with
  | .rt d μ => if noR fz d then (match mapO sanO μ with
    | some μ' => .ok d μ'
    | none => .bad) else .bad
  | .nx _ μ => (match mapO sanO μ with
    | some μ' => .ok .non μ'
    | none => .bad)
  | .exc c d _ μ => if noR fz d then (match mapO sanO μ with
    | some μ' => .exc c d μ'
    | none => .bad) else .bad
  | _ => .bad
def fnL (n : Nat) (fb : SS) : List AD → Store → R AD := fun ds μ => R.san (fb (startS n ds) μ)
section
variable {w : Wo} {c : Option (List (Str × Addr))} {ρ : List Addr} {B H : Hp}
theorem san_out {E : XK} {Q : VK} {r : SR} (o : Out w (fun k d H' => E k d H') (PV w) ρ B H (R.san r) Q) : SOut (w.at' c) (fun cls d _ H' => E cls d H') ρ B H r { nx := fun _ H' => Q .non H', rt := Q } := by
  cases r with
  | rt d μ =>
    simp only [R.san] at o
    split at o
    rotate_left
    · exact o.elim
    rename_i hd
    split at o
    rotate_left
    · exact o.elim
    rename_i μ' hm
    exact fun ρ' B' H' v l a b => o ρ' B' H' v l (a.down hm) (noR_down fz b hd)
  | nx s μ =>
    simp only [R.san] at o
    split at o
    rotate_left
    · exact o.elim
    rename_i μ' hm
    exact fun ρ' B' H' σ' l a b => o ρ' B' H' .non l (a.down hm) .non
  | exc k d s μ =>
    simp only [R.san] at o
    split at o
    rotate_left
    · exact o.elim
    rename_i hd
    split at o
    rotate_left
    · exact o.elim
    rename_i μ' hm
    exact fun ρ' B' H' dx v σ' l a b e1 e2 => o ρ' B' H' dx v l (a.down hm) e1 (noR_down fz e2 hd)
  | bk s μ => exact o.elim
  | ct s μ => exact o.elim
  | bad => exact o.elim
end
end SC

set_option Elab.async false
set_option linter.all false
set_option maxRecDepth 100000
set_option maxHeartbeats 2000000
namespace SC
open PySem PySem.Spec PyProof.Rows L2
section
variable {X : Cx} {pins : List (Addr × Obj)} {σ : L2.St} {H : Hp} {s : Shared}
/-- a pinned exception is told of in the abstract heap from now on -/
theorem inv_track {a C dx : Addr} {oe : Obj} {vs : Array Value} (I : Inv X ((a, oe) :: pins) σ H s) (h1 : oe.cls = .ref C) (h2 : oe.dict = some dx) (h3 : oe.data = .fields vs) (h0 : X.s_0.heap.get? a = none) (hp : ∀ p ∈ X.pn ++ pins, p.1 ≠ a) : Inv X pins σ (upd H a (excO C dx a)) s := by
  obtain ⟨ha, na, nL, nF, nc⟩ := I.pin (a, oe) (List.mem_append_right _ List.mem_cons_self)
  have ha : s.heap.get? a = some oe := ha
  have na : H a = none := na
  have ne : ∀ b u, H b = some u → b ≠ a := fun b u e z => by rw [z, na] at e; cases e
  refine ⟨I.ok, I.os, I.bare, ⟨I.base.keep, I.base.slot, fun b o e n hx => ?_, I.base.there, fun b xs e => ?_, fun b o u e => ?_, fun b ps e => ?_⟩, I.loc, I.cell, ?_, fun y c e => ?_, fun p hp' => ?_, fun b u e => ?_, I.len⟩
  · rw [upd_ne (fun z => by rw [z, h0] at e; cases e)]
    exact I.base.free b o e n hx
  · have := I.base.tups b xs e
    rw [upd_ne (ne b _ this)]; exact this
  · have := I.base.frzs b o u e
    rw [upd_ne (ne b _ this)]; exact this
  · obtain ⟨more, this⟩ := I.base.tbls b ps e
    exact ⟨more, by rw [upd_ne (ne b _ this)]; exact this⟩
  · rw [upd_ne (Ne.symm nL)]; exact I.free
  · rw [upd_ne (fun z => ?_)]
    · exact I.freeC y c e
    · obtain ⟨v, o, ho, hd⟩ := I.cell y c e
      rw [z, ha] at ho; cases ho
      exact nc v hd
  · obtain ⟨q1, q2, q3, q4, q5⟩ := I.pin p (by
      rcases List.mem_append.mp hp' with z | z
      · exact List.mem_append_left _ z
      · exact List.mem_append_right _ (List.mem_cons_of_mem _ z))
    exact ⟨q1, by rw [upd_ne (hp p hp')]; exact q2, q3, q4, q5⟩
  · by_cases hb : b = a
    · subst hb
      rw [upd_same] at e; cases e
      exact ⟨⟨oe, vs, ha, h1, h2, h3⟩, ⟨oe, ha⟩, fun g1 g2 ⟨o, ws, q1, q2⟩ st => ⟨o, ws, st o q1, q2⟩⟩
    · rw [upd_ne hb] at e
      exact (I.hok b u e).stay (fun c v _ q => q) (fun c q => by rw [upd_ne (ne c _ q)]; exact q) fun c xs q => by rw [upd_ne (ne c _ q)]; exact q
end
/-- what the clause 'except x as n: y = n' wishes of an exception of the body -/
def wKeep (K : PySem.W.Frag) (c : Value) (i j : Nat) (Wout : WX) (D : Ends) : WX := fun cls d σ H =>
  ∃ b, PySem.W.exmOne K cls c = some b ∧ (b = true → ∃ C dx, cls = .ref C ∧ d = some dx ∧ ∀ a, H a = none → D.nx (((σ.set i (some (.ref a))).set j (some (.ref a))).set i none) (upd H a (excO C dx a))) ∧ (b = false → Wout cls d σ H)
section
variable {X : Cx} {x n y : Str} {c : Value} {i j : Nat} {body : List Stmt} {np pos pos' py pn' pa : Pos} {tb : WX → TS} {Wout : WX}
theorem ps_try_keep (hs : X.stack = X.env :: X.outer) (hf : X.env.frame = some X.env.locals) (hex : X.ex = []) (hN : X.N.Nodup) (hi : X.N[i]? = some n) (hj : X.N[j]? = some y) (hij : i ≠ j) (hln : X.env.kindOf n = some .local) (hly : X.env.kindOf y = some .local) (hc : Names X x c) (tk : Takes X Wout)
    (hdn : (n == ("__debug__" : Str)) = false) (hcn : (n == ("__classdict__" : Str)) = false) (hsw : swapsWith (.Name n pn') (some (.Name y py)) pa.line X.env = pure false)
    (hb : ∀ (W : WX) (pn : List (Addr × Obj)) (xe : Value → Shared → Prop), Takes (X.tr pn xe) W → PassesOwn (model X.prog X.w) X.A X.env xe → PSs (X.tr pn xe) body (tb W)) :
    PS X (.Try body [.ExceptHandler (some (.Name x np)) (some n) [.Assign [.Name y py] (.Name n pn') pa] pos'] [] [] pos) (fun D σ H => tb (wKeep X.K c i j Wout D) D σ H) := by
  refine ⟨fun pins s σ H D I h => ?_⟩
  have ok := I.ok
  have hfr : X.A.frames = some (X.env :: X.outer) := by rw [ok.frames, hs]
  have hloc : Loc X.env.scope n := .inl hln
  refine wpAny_Try_except ?_
  refine wpAny_mono ((hb (wKeep X.K c i j Wout D) (X.pn ++ pins) (fun e s₁ => wpAny (model X.prog X.w) X.A (noteFrame e X.env) (fun _ s₂ => wpAny (model X.prog X.w) X.A (setFlight e none) (fun _ s₃ =>
    wpAny (model X.prog X.w) X.A (handleBy e X.env [.ExceptHandler (some (.Name x np)) (some n) [.Assign [.Name y py] (.Name n pn') pa] pos']) (SP X pins D) X.xe s₃) X.xe s₂) X.xe s₁) (fun u s' xx => ?_) PassesOwn.looking).run [] s σ H D (I.toTry _) h) (fun f s1 hsp => ?_) (fun e s1 he => he)
  · obtain ⟨a, B, sI, pins', σ', H', cls, d, rfl, J', nb, up, sky, na, os, ag, b, hb1, hyes, hno⟩ := xx
    have J : Inv X pins σ' H' sI := J'.ofTry ok
    have sky' : Sky B (X.env :: X.outer) a (Zc cls d) X.env.locals s'.heap := by rw [← hs]; exact sky
    show wpAny (model X.prog X.w) X.A (noteFrame (.ref a) X.env) _ _ _
    refine Sky.land Zc.steady hfr hf sky' fun h3 fl3 up3 => ?_
    have J3 : Inv X pins σ' H' { s' with heap := h3 } := J.landed nb fl3.1 (up.trans up3) os ag
    obtain ⟨oe3, vs3, he3, hz3, hd3⟩ := fl3.there
    have notFr : ∀ {h : Heap} {o : Obj} {vs : Array Value}, h.FunFrames B (X.env :: X.outer) → h.get? a = some o → o.data = .fields vs → a ∉ frs (X.env :: X.outer) := fun {h o vs} ff e dd hm => by
      obtain ⟨_, o', e', hnf⟩ := ff.mem hm
      rw [e] at e'; cases e'
      exact hnf _ dd
    have nfr := notFr fl3.2.2.1 he3 hd3
    have nL : a ≠ X.env.locals := fun z => nfr (List.mem_filterMap.mpr ⟨X.env, List.mem_cons_self, by rw [hf, z]⟩)
    have nF : a ∉ X.fs := fun hm => by
      obtain ⟨e, he, q⟩ := List.mem_filterMap.mp hm
      exact nfr (List.mem_filterMap.mpr ⟨e, List.mem_cons_of_mem _ he, q⟩)
    have hBa : B.get? a = none := fl3.2.1
    have hIa : sI.heap.get? a = none := by
      cases e : sI.heap.get? a with
      | none => rfl
      | some o =>
        have := nb a o e (by rw [hs]; exact nfr)
        rw [hBa] at this; cases this
    have h0a : X.s_0.heap.get? a = none := by
      cases e : X.s_0.heap.get? a with
      | none => rfl
      | some o =>
        obtain ⟨o', e'⟩ := J.base.there a o e (by rw [hex]; simp)
        rw [hIa] at e'; cases e'
    have hpa : ∀ p ∈ X.pn ++ pins, p.1 ≠ a := fun p hp z => by
      have := (J.pin p hp).1
      rw [z, hIa] at this; cases this
    have S3 := J3.suite he3 hd3 na nL nF
    refine wpAny_handleBy_cons (codeAny_handlers_test ?_) (by intro q; cases q)
    have LT : PySem.W.Looks (model X.prog X.w) h3 (typeOf (.ref a)) cls := fun A Q E s k q => wpAny_typeOf_ref (k _ _ he3) (by rw [hz3.1]; exact q)
    have LM := PySem.W.exm_one (M := model X.prog X.w) (J3.kIn) LT hb1
    have test : ∀ {Q : Value → Shared → Prop} {E : Value → Shared → Prop}, Q c { s' with heap := h3 } → wpAny (model X.prog X.w) (X.A.mark (some (.ref a))) (eval (.Name x np) X.env) Q E { s' with heap := h3 } := fun {Q E} q => by
      obtain ⟨hg, hdbg, hm | ⟨hm, hv, hnn⟩⟩ := hc
      · exact ld_glob (X := X.suite a ((a, oe3) :: (X.pn ++ pins))) S3 hg hm q hdbg
      · exact ld_blt (X := X.suite a ((a, oe3) :: (X.pn ++ pins))) S3 hg hm hv q hnn hdbg
    refine test (LM.here ?_)
    cases b with
    | true =>
      obtain ⟨C, dx, rfl, rfl, hyes2⟩ := hyes rfl
      refine codeAny_handlers_suite_as ?_
      refine HandSPX.lands_againZ fl3 fun h4 fl4 up4 => ?_
      have J4 : Inv X pins σ' H' { s' with heap := h4 } := J.landed nb fl4.1 ((up.trans up3).trans up4) os ag
      obtain ⟨oe4, vs4, he4, hz4, hd4⟩ := fl4.there
      have S4 := J4.suite he4 hd4 na nL nF
      refine store_ok (X := X.suite a ((a, oe4) :: (X.pn ++ pins))) (v := .ref a) S4 hN hi hloc rfl (fun s5 S5 => ?_) (.inr hln)
      have hi' : i < σ'.length := by rw [J.len]; exact (List.getElem?_eq_some_iff.mp hi).1
      have hsu : PSs (X.suite a ((a, oe4) :: (X.pn ++ pins))) [.Assign [.Name y py] (.Name n pn') pa] (tAsg (tVar i) (gName j)) :=
        pss_one (ps_set (X := X.suite a ((a, oe4) :: (X.pn ++ pins))) hN hj (.inl hly) (pe_var (X := X.suite a ((a, oe4) :: (X.pn ++ pins))) hi (.inl hln) hdn hcn) hsw (.inr hly))
      refine wpAny_mono (hsu.run [] s5 _ H' { nx := fun σ6 H6 => σ6 = (σ'.set i (some (.ref a))).set j (some (.ref a)) ∧ H6 = H', rt := fun _ _ => False } S5 ⟨.ref a, by rw [List.getElem?_set_self hi'], rfl, rfl⟩) (fun f s6 hsp => ?_) (fun _ _ z => False.elim z)
      cases f with
      | next =>
        obtain ⟨σ6, H6, S6, rfl, rfl⟩ := hsp
        have S7 : Inv X ((a, oe4) :: pins) ((σ'.set i (some (.ref a))).set j (some (.ref a))) H6 s6 :=
          ⟨ok, S6.os, S6.bare, S6.base, S6.loc, S6.cell, S6.free, S6.freeC, fun p hp => S6.pin p (by
            have e : (X.suite a ((a, oe4) :: (X.pn ++ pins))).pn ++ [] = (a, oe4) :: (X.pn ++ pins) := by simp
            rw [e]
            rcases List.mem_append.mp hp with z | z
            · exact List.mem_cons_of_mem _ (List.mem_append_left _ z)
            · rcases List.mem_cons.mp z with z | z
              · rw [z]; exact List.mem_cons_self
              · exact List.mem_cons_of_mem _ (List.mem_append_right _ z)), S6.hok, S6.len⟩
        refine gone_ok S7 hN hi hln fun s7 J7 => ?_
        exact ⟨_, _, inv_track J7 hz4.1 hz4.2 hd4 h0a hpa, hyes2 a na⟩
      | brk => obtain ⟨_, _, _, q6⟩ := hsp; exact q6.elim
      | cont => obtain ⟨_, _, _, q6⟩ := hsp; exact q6.elim
      | ret u => obtain ⟨_, _, _, _, _, q6⟩ := hsp; exact q6.elim
    | false =>
      show wpAny _ X.A (handleBy (.ref a) X.env []) _ _ _
      refine wpAny_handleBy_nil ?_
      obtain ⟨k1, k2, k3, oe, vs, T, oT, ts', he, hz, hd, h1, hr⟩ := id fl3
      unfold PySem.passOn
      refine wpAny_bind (wpAny_field he hd h1 ?_)
      rw [if_neg (show ¬ ((Value.ref T == Value.none) = true) from by simp)]
      have fin : wpAny (model X.prog X.w) X.A (setFlight (.ref a) X.env.frame) (fun _ s4 => wpAny (model X.prog X.w) X.A (throw (.ref a) : Sem Flow) (SP X pins D) X.xe s4) X.xe { s' with heap := h3 } := by
        rw [hf]
        refine HandSPX.setFlight_upZ fl3 fun h4 hh4 up4 => wpAny_throw (tk _ _ ?_)
        exact ⟨a, B, sI, pins, σ', H', cls, d, rfl, J, nb, (up.trans up3).trans up4, .inr (.inr (by rw [hs]; exact hh4)), na, os, ag, hno rfl⟩
      first
        | exact wpAny_bind (wpAny_pure (wpAny_bind fin))
        | exact wpAny_bind fin
  · cases f with
    | next =>
      obtain ⟨σ', H', J', q⟩ := hsp
      exact wpAny_execs_nil ⟨σ', H', J'.ofTry ok, q⟩
    | brk =>
      obtain ⟨σ', H', J', q⟩ := hsp
      exact ⟨σ', H', J'.ofTry ok, q⟩
    | cont =>
      obtain ⟨σ', H', J', q⟩ := hsp
      exact ⟨σ', H', J'.ofTry ok, q⟩
    | ret u =>
      obtain ⟨v, σ', H', J', r, q⟩ := hsp
      exact ⟨v, σ', H', J'.ofTry ok, r, q⟩
end
/-! ### the layer's rule -/
/-- try: body / except x as n: y = n, x the class of which cond tells -/
def sTryK (i j : Nat) (cond : Str → Bool) (fb : SS) : SS := fun s μ => match fb s μ with
  | .exc c d s1 μ1 => if cond c then .nx (((s1.set i none).set j (some (.exc c d))).set i none) μ1 else .bad
  | r => r
section
variable {X : Cx} {w : Wo} {W : WX} {x n y : Str} {c : Value} {i j : Nat} {body : List Stmt} {np pos pos' py pn' pa : Pos} {cond : Str → Bool} {fb : SS}
theorem rs_tryK (hs : X.stack = X.env :: X.outer) (hf : X.env.frame = some X.env.locals) (hex : X.ex = []) (hN : X.N.Nodup) (hi : X.N[i]? = some n) (hj : X.N[j]? = some y) (hij : i ≠ j) (hln : X.env.kindOf n = some .local) (hly : X.env.kindOf y = some .local) (hc : Names X x c) (tk : Takes X W)
    (hcond : ∀ cn, cond cn = true → PySem.W.exmOne X.K (.ref (w.cls cn)) c = some true)
    (hb : ∀ (W : WX) (pn : List (Addr × Obj)) (xe : Value → Shared → Prop), Takes (X.tr pn xe) W → PassesOwn (model X.prog X.w) X.A X.env xe → PSs (X.tr pn xe) body (liftS w W fb))
    (hdn : (n == ("__debug__" : Str)) = false := by decide) (hcn : (n == ("__classdict__" : Str)) = false := by decide) (hsw : swapsWith (.Name n pn') (some (.Name y py)) pa.line X.env = pure false := by rfl) :
    PS X (.Try body [.ExceptHandler (some (.Name x np)) (some n) [.Assign [.Name y py] (.Name n pn') pa] pos'] [] [] pos) (liftS w W (sTryK i j cond fb)) :=
  PS_imp (ps_try_keep hs hf hex hN hi hj hij hln hly hc tk hdn hcn hsw hb) fun D σ H ⟨ρ, B, s, μ, rl, rs, o⟩ => by
    refine ⟨ρ, B, s, μ, rl, rs, ?_⟩
    unfold sTryK at o
    cases e : fb s μ with
    | nx s1 μ1 => rw [e] at o; exact o
    | rt d μ1 => rw [e] at o; exact o
    | bk s1 μ1 => rw [e] at o; exact o
    | ct s1 μ1 => rw [e] at o; exact o
    | bad => rw [e] at o; exact o
    | exc cn d s1 μ1 =>
      rw [e] at o
      simp only at o
      split at o
      rotate_left
      · exact o.elim
      rename_i hcn'
      intro ρ' B' H' dx v σ' l rl' rs' h1 h2
      refine ⟨true, hcond cn hcn', fun _ => ⟨w.cls cn, dx, rfl, rfl, fun a ha => ?_⟩, fun z => by cases z⟩
      obtain ⟨k1, k2⟩ := rl'.known (o := excO (w.cls cn) dx a) ha
      refine o ρ' _ _ _ (l.trans k2) k1 ?_
      have r : Rep w ρ' (upd B' a (excO (w.cls cn) dx a)) (.ref a) (.exc cn d) := .exc upd_same (k2.ex _ _ h1) (h2.mono k2.ex k2.pre)
      exact rsl_setN i none (RSl.set r j (rsl_setN i _ (rs'.le k2)))
end
end SC

set_option Elab.async false
set_option linter.all false
set_option maxRecDepth 100000
set_option maxHeartbeats 2000000
/-! an own exception whose inherited __init__ says super().__init__(value); self.value = value -/
namespace SCX
open PySem PySem.W PySem.Calls PyProof.Rows PySem.HandSPX
def iA (p1 p2 : Pos) : Arguments := { posonlyargs := [], args := [{ arg := "self", annotation := none, pos := p1 }, { arg := "value", annotation := none, pos := p2 }], vararg := none, kwonlyargs := [], kw_defaults := [], kwarg := none, defaults := [] }
def iB (q1 q2 q3 q4 q5 q6 r1 r2 r3 r4 : Pos) : List Stmt := [.Expr (.Call (.Attribute (.Call (.Name "super" q1) [] [] q2) "__init__" q3) [.Name "value" q4] [] q5) q6, .Assign [.Attribute (.Name "self" r1) "value" r2] (.Name "value" r3) r4]
def iS : Scope := { kind := .function, names := [(PySem.Str.ofString "self", .local), (PySem.Str.ofString "value", .local), (PySem.Str.ofString "__class__", .free), (PySem.Str.ofString "super", .globalImplicit)], isGenerator := false, isCoroutine := false, more := [] }
def McOk (fI cda cc : Addr) (q1 q2 q3 q4 q5 : Pos) : Prop := ∀ L : Addr, ∃ pl : Sem Bool, eval (.Call (.Attribute (.Call (.Name "super" q1) [] [] q2) "__init__" q3) [.Name "value" q4] [] q5) (ksEnv "PieceError.__init__" iS L fI (.ref cda) cc) = (do
  let ov ← attributeBase (.Call (.Name "super" q1) [] [] q2) "__init__" (ksEnv "PieceError.__init__" iS L fI (.ref cda) cc) (eval (.Call (.Name "super" q1) [] [] q2) (ksEnv "PieceError.__init__" iS L fI (.ref cda) cc))
  standAt q3.atName
  let (f, first) ← holding [ov] (getMethod ov "__init__" pl)
  callWith q5 f first (backTo q5 (starEach [.Name "value" q4] (ksEnv "PieceError.__init__" iS L fI (.ref cda) cc))) [])
example (fI cda cc : Addr) : McOk fI cda cc ⟨5, 8, 5, 13⟩ ⟨5, 8, 5, 15⟩ ⟨5, 8, 5, 24⟩ ⟨5, 25, 5, 30⟩ ⟨5, 8, 5, 31⟩ := fun L => ⟨_, rfl⟩
example (fI cda cc : Addr) : McOk fI cda cc ⟨8, 8, 8, 13⟩ ⟨8, 8, 8, 15⟩ ⟨8, 8, 8, 24⟩ ⟨8, 25, 8, 30⟩ ⟨8, 8, 8, 31⟩ := fun L => ⟨_, rfl⟩
/-- what the written part says of PieceError at D and its __init__ at fI -/
structure BaseT (prog : Program) (K : Frag) (mg : Str → Option Value) (D fI : Addr) : Prop where
  fn : ∃ (oc : Value) (od : Option Addr) (kV doc pm : Value) (an : Option Addr) (ct : Value) (osl : Array (Option Value)) (cda cc : Addr) (p1 p2 q1 q2 q3 q4 q5 q6 r1 r2 r3 r4 : Pos),
    K.lookup fI = some ⟨oc, od, .func (ksFn "__init__" "PieceError.__init__" (iA p1 p2) (iB q1 q2 q3 q4 q5 q6 r1 r2 r3 r4) iS .none kV doc pm an (.ref cda) ct cc), osl⟩ ∧ codeIn K (.ref cda) "PieceError.__init__" = true ∧ McOk fI cda cc q1 q2 q3 q4 q5 ∧
      (∃ (ccl : Value) (cdd : Option Addr) (vs : Array Value) (ccs : Array (Option Value)) (file : Str) (tf : Tok), K.lookup cda = some ⟨ccl, cdd, .fields vs, ccs⟩ ∧ vs[2]? = some (.str file tf) ∧ ((prog.main.file : Str) == file) = true) ∧
      (∃ (cl : Value) (cld : Option Addr) (csl : Array (Option Value)), K.lookup cc = some ⟨cl, cld, .cell (some (.ref D)), csl⟩)
  cD : ∃ cdD, clsIn K D = some cdD
  sup : mg "super" = none
  any : nsIn K cStatics "thirdparty.any" = some none
  top : (prog.main.scope.names.lookup ("super" : Str)).isSome = false
/-- .. of one of its classes at C -/
structure ClsT (K : Frag) (D fI C : Addr) : Prop where
  cls : ∃ nm q N bs bm sn sub ab col dd k0 k1 k2 k3 k5, K.lookup C = some (excClassObj nm q C N bs bm true sn sub ab col dd k0 k1 k2 k3 k5 "ValueError.__new__") ∧ refsVE bm = true
  sa : findIn K (.ref C) "__setattr__" = some (some (.builtin "object.__setattr__"))
  noN : findIn K (.ref C) "value" = some none
  iC : findIn K (.ref C) "__init__" = some (some (.ref fI))
  tC : typeIn K (.ref fI) = some (.type "function")
  kC : keepIn K (.ref C) = true
  exC : subIn K (.ref C) (.type "BaseException") = some true
  tyC : typeIn K (.ref C) = some (.type "type")
  veC : subIn K (.ref C) (.type "ValueError") = some true
  mD : mroIn K C (.ref D) = some true
  supC : ks_superIn K C D "__init__" = some (some (.builtin "ValueError.__init__"))
theorem one_size (v : Value) : [v].length ≤ sizeLine := by
  rw [sizeLine_eq]
  exact (by decide : 1 ≤ 16777216)
theorem kept_but {K : Frag} {h h' : Heap} {x : Addr} (X : K.In h) (hx : K.lookup x = none) (k : ∀ b o, b ≠ x → h.get? b = some o → h'.get? b = some o) : K.In h' := fun a o e =>
  k a o (fun z => by rw [z, hx] at e; cases e) (X a o e)
/-- what __init__ leaves of a fresh exception at x -/
structure InitEnd (h h' : Heap) (x C dx t1 : Addr) (v : Value) : Prop where
  keep : ∀ b o, b ≠ x → h.get? b = some o → h'.get? b = some o
  obj : h'.get? x = some { cls := .ref C, dict := some dx, data := .fields #[.ref t1, .none, .none, .none, .bool false, .none] }
  dbig : h.objs.size ≤ dx
  dne : dx ≠ x
  ns : h'.Ns1 dx (fun y => if y = "value" then some v else none)
section
variable {prog : Program} {w : World} {A : Around} {E : Value → Shared → Prop} {R : Result → Shared → Prop} {s : Shared} {K : Frag} {mg : Str → Option Value} {D C fI : Addr}
theorem piece_init (T : BaseT prog K mg D fI) (TC : ClsT K D fI C) {x t0 : Addr} {v : Value} (X : K.In s.heap) (hG : s.heap.Ns mainGlobals mg) (hBl : ∃ mb, s.heap.Ns builtinsNs mb ∧ ∀ x : Str, x ≠ "__name__" → mb x = bootBuiltins x)
    (hlim : s.heap.NoLimit) (hx : s.heap.get? x = some (HandSPX.excO C t0)) (hnx : K.lookup x = none) (hroom : A.depth < recursionLimit)
    (hq : ∀ h' tk dx t1, InitEnd s.heap h' x C dx t1 v → R (.ok (.ret .none)) { s with heap := h', toks := tk }) :
    codeAny (model prog w) A (.call (.ref fI) ⟨[.ref x, v], []⟩) R s := by
  obtain ⟨oc, od, kV, doc, pm, an, ct, osl, cda, cc, p1, p2, q1, q2, q3, q4, q5, q6, r1, r2, r3, r4, ho, hcd, hmc, ⟨ccl, cdd, vs, ccs, file, tf, hcode, hvs, hfile⟩, ⟨cl, cld, csl, hcell⟩⟩ := T.fn
  obtain ⟨cdD, hcD⟩ := T.cD
  obtain ⟨nm, q, N, bs, bm, sn, sub, ab, col, dd, k0, k1, k2, k3, k5, hC, hbm⟩ := TC.cls
  have hclC : clsIn K C = some { name := nm, bases := bs, mro := .ref C :: bm, ns := N, qualname := q, hasDict := true, slotNames := sn, subclasses := sub, abstract := ab, collection := col, hasDel := false } := by unfold clsIn; rw [hC] <;> rfl
  refine ks_codeAny_call_defAt (fd := ksFn "__init__" "PieceError.__init__" (iA p1 p2) (iB q1 q2 q3 q4 q5 q6 r1 r2 r3 r4) iS .none kV doc pm an (.ref cda) ct cc) (body := iB q1 q2 q3 q4 q5 q6 r1 r2 r3 r4) (binds := [("self", .ref x), ("value", v)]) hroom (X _ _ ho) rfl hlim (codeRec_of X hcd) rfl
    (BindsTo.of_eq (by first | rfl | with_unfolding_all rfl)) (show ∀ x ∈ iS.names, x.2 ≠ .cell by decide) (locs rfl) (fun h₁ hn k => ?_) rfl rfl rfl
  have X₁ : K.In h₁ := X.keeps k
  have hx₁ := k _ _ hx
  obtain ⟨mb, hB1, hB2⟩ := hBl
  obtain ⟨oD, hD1, hD2⟩ : ∃ oD, h₁.get? D = some oD ∧ oD.data = .cls cdD := by
    unfold clsIn at hcD
    split at hcD
    · rename_i c d cd' sl ho
      cases hcD
      exact ⟨_, X₁ _ _ ho, rfl⟩
    · cases hcD
  have I₁ : InstAt h₁ x (HandSPX.excO C t0) C none := ⟨hx₁, rfl, rfl, trivial⟩
  have hself : (fun y => List.lookup y ([("self", Value.ref x), ("value", v)] : List (Str × Value)).reverse) "self" = some (.ref x) := by first | rfl | with_unfolding_all rfl | kernel_rfl
  have hval : (fun y => List.lookup y ([("self", Value.ref x), ("value", v)] : List (Str × Value)).reverse) "value" = some v := by first | rfl | with_unfolding_all rfl | kernel_rfl
  have hxL : s.heap.objs.size ≠ x := Nat.ne_of_gt (Heap.lt_size hx)
  show _root_.PySem.wpAt _ _ _ (execs (iB q1 q2 q3 q4 q5 q6 r1 r2 r3 r4) (ksEnv "PieceError.__init__" iS s.heap.objs.size fI (.ref cda) cc)) _ _ _
  obtain ⟨pl, hmc⟩ := hmc s.heap.objs.size
  refine ks_wpAt_execs_cons (ks_wpAt_Expr_any (ks_wpAt_MethodCall (pl := pl) ?_ hmc))
  refine ks_wpAt_super_base (env := ksEnv "PieceError.__init__" iS s.heap.objs.size fI (.ref cda) cc) rfl rfl rfl rfl (X₁ _ _ ho) rfl rfl rfl (X₁ _ _ hcode) rfl hvs hfile T.top ?_
  refine ks_loadName_global rfl rfl (loadGlobal_builtin (env := ksEnv "PieceError.__init__" iS s.heap.objs.size fI (.ref cda) cc) (hG.keeps k) T.sup (hB1.keeps k) ((hB2 _ (by decide)).trans (by first | rfl | kernel_rfl)) ⟨rfl, ?_⟩)
  refine wpAny_loadName_free rfl rfl rfl ⟨_, X₁ _ _ hcell, rfl⟩ ?_
  refine wpAny_loadName_local rfl rfl hn hself ?_
  refine ks_wpAny_isType_cls hD1 hD2 ⟨rfl, ?_⟩
  refine ks_wpAny_call_super hD1 hD2 hx₁ rfl (fun c e => by cases e) (looks_mroIn X₁ TC.mD) (fun h₂ e₂ k₂ => ?_)
  have X₂ : K.In h₂ := X₁.keeps k₂
  have I₂ : InstAt h₂ x (HandSPX.excO C t0) C none := ⟨k₂ _ _ hx₁, rfl, rfl, trivial⟩
  have hm := TC.supC
  unfold ks_superIn at hm
  rw [hclC, Option.bind_some] at hm
  refine kxs_getMethod (i := "ValueError.__init__") (B := "ValueError") kxs_ValueError e₂ (looks_opaque X₂ T.any) (l₀ := .ref C :: bm) (l := ((Value.ref C :: bm).dropWhile (· != .ref D)).drop 1) ?_ rfl X₂ hm (I₂.type.andThen (looks_subIn X₂ TC.veC)) (ks_ne X₂ I₂ hclC) rfl ?_
  · exact fun A Q E s k q => wpAny_bind ((looks_clsIn X₂ hclC) A _ E s k (wpAny_pure q))
  have k₃ : ∀ b o, h₂.get? b = some o → (h₂.push (kxs_mw "ValueError.__init__" x)).get? b = some o := fun b o e => Heap.get?_push_of_some _ e
  have hu : (h₂.push (kxs_mw "ValueError.__init__" x)).get? h₂.objs.size = some (kxs_mw "ValueError.__init__" x) := Heap.get?_push_at rfl rfl
  have k03 : ∀ b o, h₁.get? b = some o → (h₂.push (kxs_mw "ValueError.__init__" x)).get? b = some o := fun b o e => k₃ b o (k₂ b o e)
  have X₃ : K.In (h₂.push (kxs_mw "ValueError.__init__" x)) := X₂.keeps k₃
  refine kxs_callWith (i := "ValueError.__init__") (x := x) rfl (evalArgs_plain ?_)
  refine spliced_cons (ESX.ldL (hn.keeps k03) hval (spliced_nil ?_) rfl rfl rfl)
  refine ⟨hu, ?_⟩
  obtain ⟨hh, g, dr, tk, os⟩ := s
  refine wpAny_call (codeAny_of_tree ?_)
  show wpAny _ _ (callAny (.ref h₂.objs.size) ⟨[v], []⟩) _ _ _
  simp only [callAny]
  refine wpAny_bind (wpAny_load hu ?_)
  simp only [kxs_mw, show (Value.type "method-wrapper" == Value.type "method" || Value.type "method-wrapper" == Value.type "builtin_function_or_method" || Value.type "method-wrapper" == Value.type "method-wrapper") = true by decide, if_true]
  refine KFB.if_so (by decide) ?_
  refine wpAny_bind (check_bound_init PySem.F.excBase_ValueError.toExcCallFacts (X₃ _ _ hC) (k03 _ _ hx₁) rfl ?_)
  refine wpAny_bind (wpAny_pure (wpAny_pure ?_))
  refine ⟨plainId_quiet PySem.F.excBase_ValueError.init.plain _, codeAny_builtin PySem.F.excBase_ValueError.initEntry ?_⟩
  refine exc_init_tree (cls := .ref C) (t0 := t0) (dv := none) (c2 := .none) (c3 := .none) (b4 := .bool false) (k03 _ _ hx₁) (one_size v) fun h₄ k₄ hx₄ ht₄ => ?_
  -- self.value = value
  have X₄ : K.In h₄ := kept_but X₃ hnx k₄
  have hL4 : h₄.Ns hh.objs.size (fun y => List.lookup y ([("self", Value.ref x), ("value", v)] : List (Str × Value)).reverse) := by
    obtain ⟨oL, es, ep, z1, z2⟩ := hn.keeps k03
    exact ⟨oL, es, ep, k₄ _ _ hxL z1, z2⟩
  show _root_.PySem.wpAt _ _ _ (execs _ _) _ _ _
  refine ks_wpAt_execs_cons (wpAt_of_wpAny (plainObj_wpAny_Assign_Attribute ?_))
  refine ESX.ldL hL4 hval (ESX.ldL hL4 hself ?_ rfl rfl rfl) rfl rfl rfl
  refine set_plain X₄ (ox := HandSPX.excO C _) (od := none) ⟨hx₄, rfl, rfl, trivial⟩ TC.sa ?_
  refine exc_osa X₄ hx₄ hclC (show refsVE (.ref C :: bm) = true from hbm) rfl TC.noN (fun h₅ tk₅ dx k₅ dn dne hx₅ hn₅ => ?_)
  show _root_.PySem.wpAt _ _ _ (execs [] _) _ _ _
  refine wpAt_of_wpAny (wpAny_execs_nil (hq h₅ tk₅ dx _ ⟨fun b o hb e => k₅ b o hb (k₄ b o hb (k03 b o (k b o e))), hx₅, ?_, dne, hn₅⟩))
  have z := (hL4.lt)
  exact Nat.le_of_lt (Nat.lt_of_lt_of_le z dn)
end
end SCX

set_option Elab.async false
set_option linter.all false
set_option maxRecDepth 100000
set_option maxHeartbeats 2000000
namespace SCX
open PySem PySem.W PySem.Calls PyProof.Rows PySem.HandSPX
/-- a made exception -/
structure OwnMade (h h' : Heap) (e C d : Addr) (v : Value) : Prop where
  keep : ∀ b o, h.get? b = some o → h'.get? b = some o
  new : h.objs.size ≤ e
  obj : ∃ oe vs, h'.get? e = some oe ∧ oe.cls = .ref C ∧ oe.dict = some d ∧ oe.data = .fields vs ∧ vs[1]? = some .none
  dbig : h.objs.size ≤ d
  dne : d ≠ e
  ns : h'.Ns1 d (fun y => if y = "value" then some v else none)
section
variable {prog : Program} {w : World} {A : Around} {E : Value → Shared → Prop} {R : Result → Shared → Prop} {s : Shared} {K : Frag} {mg : Str → Option Value} {D C fI : Addr}
theorem piece_made (T : BaseT prog K mg D fI) (TC : ClsT K D fI C) {v : Value} (X : K.In s.heap) (hG : s.heap.Ns mainGlobals mg) (hBl : ∃ mb, s.heap.Ns builtinsNs mb ∧ ∀ x : Str, x ≠ "__name__" → mb x = bootBuiltins x) (hlim : s.heap.NoLimit) (hroom : A.depth + 1 < recursionLimit)
    (hq : ∀ h' tk e d, OwnMade s.heap h' e C d v → R (.ok (.ret (.ref e))) { s with heap := h', toks := tk }) :
    codeAny (model prog w) A (.call (.ref C) ⟨[v], []⟩) R s := by
  obtain ⟨nm, q, N, bs, bm, sn, sub, ab, col, dd, k0, k1, k2, k3, k5, hC, hbm⟩ := TC.cls
  obtain ⟨hp, g, dr, tk, os⟩ := s
  have k : ∀ b o, hp.get? b = some o → ((hp.push (kdv_tup [v])).push (HandSPX.excO C hp.objs.size)).get? b = some o := fun b o e => Heap.get?_push_of_some _ (Heap.get?_push_of_some _ e)
  have hget : ((hp.push (kdv_tup [v])).push (HandSPX.excO C hp.objs.size)).get? (hp.objs.size + 1) = some (HandSPX.excO C hp.objs.size) := by heap_get
  have hnx : K.lookup (hp.objs.size + 1) = none := by
    cases e : K.lookup (hp.objs.size + 1) with
    | none => rfl
    | some o =>
      have z : hp.get? (hp.objs.size + 1) = some o := X _ _ e
      exact absurd (Nat.lt_of_succ_lt (Heap.lt_size z)) (Nat.lt_irrefl _)
  obtain ⟨mb, hb1, hb2⟩ := hBl
  refine HandSPX.call_own F.excBase_ValueError (fun X => refsVE_contains X bm hbm) (X _ _ hC) (looks_findIn X TC.iC) (fun self => bind_fn X self TC.tC) (one_size v) ?_
  refine piece_init (s := ⟨(hp.push (kdv_tup [v])).push (HandSPX.excO C hp.objs.size), g, dr, tk, os⟩) T TC (X.keeps k) (hG.keeps k) ⟨mb, hb1.keeps k, hb2⟩ (hlim.keeps k) hget hnx ?_ fun h' tk' dx t1 ⟨k', hx, dn, dne, hns⟩ => ?_
  · show A.depth + 1 < recursionLimit
    exact hroom
  · have old : ∀ b o, hp.get? b = some o → h'.get? b = some o := fun b o e => k' b o (Nat.ne_of_lt (Nat.lt_succ_of_lt (Heap.lt_size e))) (k b o e)
    have z : hp.objs.size + 1 + 1 ≤ dx := by
      have q := dn
      rw [Heap.size_push, Heap.size_push] at q
      exact q
    exact ⟨rfl, hq h' tk' (hp.objs.size + 1) dx ⟨old, Nat.le_succ _, ⟨_, _, hx, rfl, rfl, rfl, rfl⟩, Nat.le_trans (Nat.le_trans (Nat.le_succ _) (Nat.le_succ _)) z, dne, hns⟩⟩
end
end SCX
namespace SC
open PySem PySem.Spec PyProof.Rows L2
theorem relO_val {v : V} {v' : Value} (r : RelV v v') (f : Str) : RelO (List.lookup f [(("value" : Str), v)]) (if f = "value" then some v' else none) := by
  by_cases hw : f = "value"
  · subst hw
    rw [if_pos rfl]
    have q : List.lookup ("value" : Str) [(("value" : Str), v)] = some v := by simp [List.lookup]
    rw [q]
    exact r
  · rw [if_neg hw]
    have qw : (f == ("value" : Str)) = false := by simpa using hw
    have q2 : List.lookup f [(("value" : Str), v)] = none := by simp [List.lookup, qw]
    rw [q2]
    trivial
section
variable {X : Cx} {D C fI : Addr}
/-- C(e) -/
def tMkP (C : Addr) (ta : TA) : L2.St → Hp → XK → Prop := fun σ H Q => ta σ H fun vs H1 => ∃ v, vs = [v] ∧ ∀ d, H1 d = none → Q (.ref C) (some d) (upd H1 d (.xd [(("value" : Str), v)]))
theorem pmk_p {n : Str} {a : Expr} {ta : TA} {p pos : Pos} {k : Nat} (T : SCX.BaseT X.prog X.K X.mg D fI) (TC : SCX.ClsT X.K D fI C) (gC : X.mg n = some (.ref C)) (hr : Room k X.A) (ha : PA X [a] ta) (hg : Gl X n) (hdb : (n == ("__debug__" : Str)) = false)
    (he : starEach (a :: []) X.env = (false, eval a X.env) :: starEach [] X.env := by rfl) (hpl : (backTo pos (starEach [] X.env)).any (·.1) = false := by rfl) :
    PMk X (.Call (.Name n p) [a] [] pos) (tMkP C ta) := by
  intro pins s σ H Q I h
  refine wpAny_Call_Name_kw (ld_glob I hg gC ?_ hdb)
  refine PySem.W.callWith_K (h₀ := X.base) I.ok.mod.kin TC.kC (thn (ha.run pos pins s σ H _ I h) fun us s1 hh => ?_) he hpl
  obtain ⟨vs, H1, I1, r1, v, ev, q1⟩ := hh
  subst ev
  refine ⟨I1.kIn, ?_⟩
  cases r1 with
  | cons rv rn =>
    rename_i v' us'
    cases rn
    show wpAny _ _ (call (.ref C) [v']) _ _ _
    have hlim := I1.nolimit
    have hG := I1.mod.glob.keeps I1.bk
    obtain ⟨mb, hb1, hb2⟩ := I1.mod.blt
    have hB := hb1.keeps I1.bk
    obtain ⟨hp, g, dr, tk, os⟩ := s1
    refine wpAny_call (SCX.piece_made T TC I1.kIn hG ⟨mb, hB, hb2⟩ hlim (by have := hr.dp; omega) fun h' tk' e d M => ?_)
    show MkP X pins σ Q (.ref e) ⟨h', g, dr, tk', os⟩
    obtain ⟨oe, fv, hoe, hc, hd, hdat, h1⟩ := M.obj
    have hns := M.ns
    obtain ⟨G', g1, g2⟩ := restrict h' fun b => decide (b ≠ e)
    have gk : ∀ b, b ≠ e → G'.get? b = h'.get? b := fun b hb => g1 b (decide_eq_true hb)
    have ge : G'.get? e = none := g2 e (by simp)
    have old : ∀ b o, hp.get? b = some o → G'.get? b = some o := fun b o q => (gk b (Nat.ne_of_lt (Nat.lt_of_lt_of_le (Heap.lt_size q) M.new))).trans (M.keep b o q)
    have ob : ObjOk X.prog X.w (upd H1 d (.xd [(("value" : Str), v)])) G' d (.xd [(("value" : Str), v)]) :=
      ⟨_, hns.at (fun o q => (gk d M.dne).trans q), fun f => relO_val rv f⟩
    have J : Inv X pins σ (upd H1 d (.xd [(("value" : Str), v)])) ⟨G', g, dr, tk', os⟩ := I1.laid (t' := tk') old M.dbig ob
    refine ⟨e, oe, fv, ⟨G', g, dr, tk', os⟩, _, .ref C, some d, rfl, J, fun b o q => ?_, ge, hoe, ⟨hc, hd⟩, hdat, h1, ?_, rfl, I1.bare, raises_own TC.exC TC.tyC, q1 d (I1.hok.fresh M.dbig)⟩
    · by_cases hb : b = e
      · have q' : G'.get? b = some o := q
        rw [hb, ge] at q'; cases q'
      · exact (gk b hb).symm.trans q
    · rw [upd_ne (Ne.symm M.dne)]
      exact I1.hok.fresh M.new
/-- raise C(e), c the class's name -/
def sRaise (c : Str) (f : SE) : SS := fun s μ => match f s μ with
  | .ok d μ1 => .exc c d s μ1
  | .exc k d μ1 => .exc k d s μ1
  | .bad => .bad
variable {w : Wo} {W : WX}
theorem rs_raise {cn n : Str} {a : Expr} {fa : SE} {p pos pos2 : Pos} {k : Nat} (hc : X.calm = true) (T : SCX.BaseT X.prog X.K X.mg D fI) (TC : SCX.ClsT X.K D fI (w.cls cn)) (gC : X.mg n = some (.ref (w.cls cn))) (hr : Room k X.A) (tk : Takes X W) (ha : PE X a (lift w W fa)) (hg : Gl X n := by rfl) (hdb : (n == ("__debug__" : Str)) = false := by decide)
    (he : starEach (a :: []) X.env = (false, eval a X.env) :: starEach [] X.env := by rfl) (hpl : (backTo pos (starEach [] X.env)).any (·.1) = false := by rfl) :
    PS X (.Raise (some (.Call (.Name n p) [a] [] pos)) none pos2) (liftS w W (sRaise cn fa)) :=
  PS_imp (ps_raise hc tk (pmk_p T TC gC hr (pa_cons ha pa_nil he) hg hdb he hpl)) fun D' σ H ⟨ρ, B, s, μ, rl, rs, o⟩ => by
    have o' : SOut w W ρ B H ((fa s μ).st s fun d μ1 => .exc cn d s μ1) D' := by
      unfold sRaise at o
      cases e : fa s μ <;> rw [e] at o <;> exact o
    refine liftS_e (R' := fun x H1 => ∃ v, [x] = [v] ∧ ∀ d, H1 d = none → W (.ref (w.cls cn)) (some d) σ (upd H1 d (.xd [(("value" : Str), v)]))) rl rs o' fun x d ρ1 B1 H1 μ1 rl1 rs1 p1 o1 => ?_
    refine ⟨x, rfl, fun dx hdx => ?_⟩
    obtain ⟨k1, k2⟩ := rl1.known (o := .xd [(("value" : Str), x)]) hdx
    exact o1 _ _ _ dx x σ k2 k1 (rs1.le k2) upd_same (p1.mono k2.ex k2.pre)
/-! ### e.value -/
structure XvT (K : PySem.W.Frag) (C : Addr) : Prop extends XfC K C where
  noN : PySem.W.findIn K (.ref C) "value" = some none
def uVal (kn : Str → Bool) : AD → Store → R AD := fun x μ => match x with
  | .exc c d => if kn c then .ok d μ else .bad
  | _ => .bad
theorem r_val {kn : Str → Bool} {e : Expr} {f : SE} {pos : Pos} (hk : ∀ c, kn c = true → XvT X.K (w.cls c)) (he : PE X e (lift w W f)) (hb : attributeBase e "value" X.env (eval e X.env) = eval e X.env := by rfl) : PE X (.Attribute e "value" pos) (lift w W (eUn (uVal kn) f)) := by
  refine ⟨fun pins s σ H Q I h => ?_⟩
  obtain ⟨ρ, B, sl, μ, rl, rs, o⟩ := h
  refine attr_of hb (thn (he.run pins s σ H (fun x H1 => ∃ (a C dd : Addr) (v : V), x = .ref a ∧ XvT X.K C ∧ H1 a = some (excO C dd a) ∧ H1 dd = some (.xd [("value", v)]) ∧ Q v H1) I (lift_one rl rs o fun x dx ρ2 B2 H2 μ2 _ rl2 rs2 p o2 => ?_)) fun u s1 hh => ?_)
  · unfold uVal at o2
    cases p with
    | @exc a dd c v d h1 h2 r =>
      simp only at o2
      split at o2
      · rename_i hc
        exact ⟨a, _, dd, v, rfl, hk c hc, rl2.ex _ _ h1, rl2.ex _ _ h2, out_now rl2 r o2⟩
      · exact o2.elim
    | _ => exact o2.elim
  · obtain ⟨x, H1, I1, rx, a, C, dd, v, ex, T, h1, h2, q⟩ := hh
    subst ex
    obtain rfl : u = Value.ref a := rx
    obtain ⟨⟨oe, vs, ho, hcl, hdi, hda⟩, _⟩ := I1.hok a _ h1
    obtain ⟨mA, hns, hr⟩ := (show ObjOk X.prog X.w H1 s1.heap dd (.xd [("value", v)]) from I1.hok dd _ h2)
    obtain ⟨od, hod, hl⟩ := lookIn_ns hns
    have l : List.lookup ("value" : Str) [(("value" : Str), v)] = some v := by simp [List.lookup]
    obtain ⟨u, hu, ru⟩ := RelO.some_of (v := v) (o := mA "value") (by rw [← l]; exact hr "value")
    have J : PySem.W.InstAt s1.heap a oe C (some od) := ⟨ho, hcl, by unfold PySem.W.notCls; rw [hda] <;> rfl, by rw [hdi]; exact hod⟩
    exact HandSPX.exc_get I1.kIn J T.ga T.gg T.exC (PySem.W.findObj_own T.hdC T.noN rfl (by rw [hl, hu])) (handed_of ru) ⟨v, H1, I1.tok _, ru, q⟩
/-! ### isinstance, with an exception class -/
structure XiT (K : PySem.W.Frag) (C : Addr) : Prop where
  cl : (PySem.W.clsIn K C).isSome = true
  ga : PySem.W.findIn K (.ref C) "__getattribute__" = some (some (.builtin "BaseException.__getattribute__"))
  gg : PySem.W.findIn K (.ref C) "__getattr__" = some none
  ex : PySem.W.subIn K (.ref C) (.type "BaseException") = some true
  ha : PySem.W.findIn K (.ref C) "__class__" = some (some (.builtin "object.__class__"))
  hn : PySem.W.specialIn K (.builtin "object.__class__") "__get__" = some (some (.builtin "getset_descriptor.__get__"))
  ht : PySem.W.takesIn K (.builtin "object.__class__") = some true
  hm : PySem.W.mroIn K C (.type "object") = some true
/-- isinstance(e, c): of an exception, or of a plain value -/
def rIsX (K : PySem.W.Frag) (cv : Value) : List V → Hp → VK → Prop := fun xs H Q => ∃ (x c : V) (b : Bool), xs = [x, c] ∧ ClsV c cv ∧ Q (.bl b) H ∧
  ((∃ t, TyX K H x t ∧ PySem.W.kitOne K t cv = some b) ∨ ∃ (a C dd : Addr) (v : V), x = .ref a ∧ XiT K C ∧ H a = some (excO C dd a) ∧ H dd = some (.xd [("value", v)]) ∧ PySem.W.kitOne K (.ref C) cv = some b)
theorem call_isX {cv : Value} : CallR X (.builtin "isinstance") (rIsX X.K cv) := by
  intro pins s σ H xs us Q I r h
  obtain ⟨x, c, b, rfl, k, q, hh⟩ := h
  obtain ⟨u1, u2, rfl, r1, r2⟩ := r.two
  have e2 := k.eq r2
  subst e2
  rcases hh with ⟨t, ty, e⟩ | ⟨a, C, dd, v, rfl, T, h1, h2, e⟩
  · obtain ⟨P, Z, p, hx⟩ := kit_of I r1 ty
    exact PySem.W.kia_one Z I.kIn p e hx fun tk => ⟨.bl b, H, I.tok tk, rfl, q⟩
  · obtain rfl : u1 = Value.ref a := r1
    obtain ⟨⟨oe, vs, ho, hcl, hdi, hda⟩, _⟩ := I.hok a _ h1
    obtain ⟨mA, hns, hr⟩ := (show ObjOk X.prog X.w H s.heap dd (.xd [("value", v)]) from I.hok dd _ h2)
    obtain ⟨od, hod, hl⟩ := lookIn_ns hns
    have J : PySem.W.InstAt s.heap a oe C (some od) := ⟨ho, hcl, by unfold PySem.W.notCls; rw [hda] <;> rfl, by rw [hdi]; exact hod⟩
    exact PySem.W.kia_one (PySem.W.kitx_exc T.cl T.ga T.gg T.ex T.ha T.hn T.ht T.hm) I.kIn J e (fun z => nomatch z) fun tk => ⟨.bl b, H, I.tok tk, rfl, q⟩
/-- sub: of the known exception classes, whether they are within c; a plain value is not -/
def uIsX (sub : Str → Option Bool) : AD → Store → R AD := fun x μ => match x with
  | .exc c _ => (match sub c with
    | some b => .ok (.bl b) μ
    | none => .bad)
  | x => (match tyC μ x with
    | some _ => .ok (.bl false) μ
    | none => .bad)
theorem r_isX {sub : Str → Option Bool} {cv : Value} {c : V} {a : Expr} {x T : Str} {fa : SE} {p p2 pos : Pos} (hC : ClsV c cv) (hT : PE X (.Name T p2) (tC c)) (hs : ∀ k b, sub k = some b → XiT X.K (w.cls k) ∧ PySem.W.kitOne X.K (.ref (w.cls k)) cv = some b) (hn5 : ∀ n, n ≤ 5 → PySem.W.kitOne X.K (.type (nmC n)) cv = some false)
    (hg : Gl X x) (hm : X.mg x = none) (hv : bootBuiltins x = some (.builtin "isinstance")) (ha : PE X a (lift w W fa)) (hK : w.K = X.K := by rfl) (hn : x ≠ "__name__" := by decide) (hdb : (x == ("__debug__" : Str)) = false := by decide)
    (h1 : starEach [a, .Name T p2] X.env = (false, eval a X.env) :: starEach [.Name T p2] X.env := by rfl) (h2 : starEach [.Name T p2] X.env = (false, eval (.Name T p2) X.env) :: starEach [] X.env := by rfl) (hpl : (backTo pos (starEach [.Name T p2] X.env)).any (·.1) = false := by rfl) :
    PE X (.Call (.Name x p) [a, .Name T p2] [] pos) (lift w W (eUn (uIsX sub) fa)) :=
  PE_imp (pe_callB (call_isX (cv := cv)) hg hm hv (pa_cons ha (pa_cons hT pa_nil h2) h1) hn hdb h1 hpl) fun σ H Q ⟨ρ, B, s, μ, rl, rs, o⟩ => by
    refine lift_one (R' := fun x H1 => rIsX X.K cv [x, c] H1 Q) rl rs o fun x dx ρ2 B2 H2 μ2 _ rl2 rs2 p o2 => ?_
    have plain : ∀ n, tyC μ2 dx = some n → Out w (fun c d H' => W c d σ H') (PV w) ρ2 B2 H2 (.ok (.bl false) μ2) Q → rIsX X.K cv [x, c] H2 Q := fun n e o3 => by
      obtain ⟨k1, k2⟩ := tyC_ok rl2 p e
      rw [hK] at k1
      exact ⟨x, _, false, rfl, hC, out_now rl2 (.bl _) o3, .inl ⟨_, k1, hn5 n k2⟩⟩
    have np : (∀ c d, dx ≠ .exc c d) → rIsX X.K cv [x, c] H2 Q := fun hne => by
      have e : uIsX sub dx μ2 = (match tyC μ2 dx with | some _ => .ok (.bl false) μ2 | none => .bad) := by
        cases dx <;> first | rfl | exact absurd rfl (hne _ _)
      rw [e] at o2
      cases e2 : tyC μ2 dx with
      | none => rw [e2] at o2; exact o2.elim
      | some n => rw [e2] at o2; exact plain n e2 o2
    cases p with
    | @exc a dd k v d h1 h2 r =>
      simp only [uIsX] at o2
      cases e : sub k with
      | none => rw [e] at o2; exact o2.elim
      | some b =>
        rw [e] at o2
        obtain ⟨k1, k2⟩ := hs k b e
        exact ⟨_, _, b, rfl, hC, out_now rl2 (.bl _) o2, .inr ⟨a, _, dd, v, rfl, k1, rl2.ex _ _ h1, rl2.ex _ _ h2, k2⟩⟩
    | _ => exact np fun _ _ z => by cases z
end
end SC

set_option Elab.async false
set_option linter.all false
set_option maxRecDepth 100000
set_option maxHeartbeats 2000000
namespace SC
open PySem PySem.Spec PyProof.Rows L2
/-! ### repr(a) == repr(b): told where the data are alike -/
def rRepr (K : PySem.W.Frag) : List V → Hp → VK → Prop := fun xs H Q => ∃ x d, xs = [x] ∧ Dp K H x d ∧ d.showable = true ∧ d.hasDict = false ∧ d.depth ≤ 62 ∧ d.shown.length ≤ sizeLine ∧ Q (.str d.shown) H
theorem call_reprD {X : Cx} (hg : X.A.guards = some []) (hu : X.A.units + 64 < cLine) : CallR X (.builtin "repr") (rRepr X.K) := by
  intro pins s σ H xs us Q I r h
  obtain ⟨x, d, rfl, hd, hs, hdi, hdp, hz, q⟩ := h
  obtain ⟨u, rfl, rx⟩ := vals1 r
  obtain ⟨as, rd⟩ := Dp.reads I d x u hd rx
  cases u with
  | ref a => exact repr_of_reads' rd hs (PyData.noDict_hsm hdi) hg (by omega) (fun _ _ e => e) (fun h' u tk k => ⟨.str _, H, I.kept (t' := tk) k, ⟨_, rfl⟩, q⟩) hz
  | none =>
    cases rd
    exact PySem.P.repr_of_none ⟨.str _, H, I.tok _, ⟨_, rfl⟩, q⟩
  | bool b =>
    cases rd
    refine PySem.P.repr_of_bool ⟨.str _, H, I.tok _, ⟨_, rfl⟩, ?_⟩
    cases b <;> exact q
  | int i t =>
    cases rd
    exact PySem.P.repr_of_int (by simpa [PyData.showable] using hs) ⟨.str _, H, I.tok _, ⟨_, rfl⟩, q⟩
  | str y t =>
    cases rd
    exact PySem.P.repr_of_str ⟨.str _, H, I.tok _, ⟨_, rfl⟩, q⟩ hz
  | _ => cases rd
def sumN (f : AD → Nat) : List AD → Nat
  | [] => 0
  | a :: r => f a + 1 + sumN f r
/-- what the data weigh -/
def wtA (μ : Store) : Nat → AD → Nat
  | 0, _ => 0
  | k + 1, d => match d with
    | .int i => i.natAbs.log2 + 1
    | .str x => (sL x).length
    | .tup ds => sumN (wtA μ k) ds
    | .lst ds => sumN (wtA μ k) ds
    | .ref n => (match μ[n]? with
      | some (.lst ds) => sumN (wtA μ k) ds
      | _ => 0)
    | _ => 0
def ltA (μ : Store) (b : Nat) : Nat → AD → Bool
  | 0, _ => true
  | k + 1, d => match d with
    | .int i => Nat.blt i.natAbs.log2 b
    | .tup ds => ds.all (ltA μ b k)
    | .lst ds => ds.all (ltA μ b k)
    | .ref n => (match μ[n]? with
      | some (.lst ds) => ds.all (ltA μ b k)
      | _ => true)
    | _ => true
def showA (μ : Store) (d : AD) : Bool := okA μ 60 d && ((ltA μ 59 60 d && Nat.ble (wtA μ 60 d) 200000) || (ltA μ 1920 60 d && Nat.ble (wtA μ 60 d) 8000))
theorem all_list {P : PyData → Bool} {f : List PyData → Bool} (h0 : f [] = true) (hc : ∀ x xs, f (x :: xs) = (P x && f xs)) : ∀ l : List PyData, (∀ d ∈ l, P d = true) → f l = true
  | [], _ => h0
  | a :: r, h => by rw [hc, h a (by simp), all_list h0 hc r fun d hd => h d (by simp [hd])]; rfl
theorem showA_pd {μ : Store} {b : Nat} (hb0 : 0 < b) (hb : b ≤ 1920) : ∀ (k : Nat) (d : AD), okA μ k d = true → ltA μ b k d = true → (toPD μ k d).showable = true ∧ (toPD μ k d).leavesShort (b + 1) = true ∧ (toPD μ k d).weight ≤ wtA μ k d
  | 0, _, h, _ => absurd h (by simp [okA])
  | k + 1, d, h, hl => by
    have go : ∀ ds : List AD, ds.all (okA μ k) = true → ds.all (ltA μ b k) = true → PyData.showableAll (ds.map (toPD μ k)) = true ∧ PyData.leavesShortAll (b + 1) (ds.map (toPD μ k)) = true ∧ PyData.weightAll (ds.map (toPD μ k)) ≤ sumN (wtA μ k) ds := fun ds => by
      induction ds with
      | nil => intro _ _; simp [PyData.showableAll, PyData.leavesShortAll, PyData.weightAll, sumN]
      | cons a r ih =>
        intro q1 q2
        rw [List.all_cons, Bool.and_eq_true] at q1 q2
        obtain ⟨a1, a2, a3⟩ := showA_pd hb0 hb k a q1.1 q2.1
        obtain ⟨b1, b2, b3⟩ := ih q1.2 q2.2
        refine ⟨?_, ?_, ?_⟩
        · simp only [List.map_cons, PyData.showableAll, a1, b1, Bool.and_self]
        · simp only [List.map_cons, PyData.leavesShortAll, a2, b2, Bool.and_self]
        · simp only [List.map_cons, PyData.weightAll, sumN]; omega
    cases d with
    | non => simp [toPD, PyData.showable, PyData.leavesShort, PyData.weight, wtA]
    | bl c => simp [toPD, PyData.showable, PyData.leavesShort, PyData.weight, wtA]
    | int i =>
      have hi : i.natAbs.log2 < b := by simpa [ltA] using hl
      refine ⟨?_, ?_, ?_⟩
      · simp only [toPD, PyData.showable, decide_eq_true_eq]; omega
      · have z : (Str.ofString (toString i)).length ≤ b + 1 := by rw [PySem.ofString_length]; exact int_text_length_le hb0 hi
        simp only [toPD, PyData.leavesShort]
        exact decide_eq_true z
      · simp only [toPD, PyData.weight, wtA]
        split <;> omega
    | str x =>
      refine ⟨by simp [toPD, PyData.showable], ?_, by simp only [toPD, PyData.weight, wtA]; exact Nat.le_of_eq rfl⟩
      simp only [toPD, PyData.leavesShort, List.all_eq_true, decide_eq_true_eq]
      intro c hc
      simp only [okA] at h
      rw [allN_all, List.all_eq_true] at h
      have := h c hc
      have e : (16 : Nat) ^ 8 = 4294967296 := by decide
      rw [e]
      have : c < 1114112 := by simpa using this
      omega
    | tup ds =>
      obtain ⟨b1, b2, b3⟩ := go ds h hl
      exact ⟨by simp only [toPD, PyData.showable]; exact b1, by simp only [toPD, PyData.leavesShort]; exact b2, by simp only [toPD, PyData.weight, wtA]; exact b3⟩
    | lst ds =>
      obtain ⟨b1, b2, b3⟩ := go ds h hl
      exact ⟨by simp only [toPD, PyData.showable]; exact b1, by simp only [toPD, PyData.leavesShort]; exact b2, by simp only [toPD, PyData.weight, wtA]; exact b3⟩
    | ref n =>
      simp only [okA] at h
      simp only [ltA] at hl
      simp only [toPD, wtA]
      cases e : μ[n]? with
      | none => rw [e] at h; exact absurd h (by simp)
      | some o =>
        rw [e] at h hl
        cases o with
        | lst ds =>
          obtain ⟨b1, b2, b3⟩ := go ds h hl
          exact ⟨by simp only [PyData.showable]; exact b1, by simp only [PyData.leavesShort]; exact b2, by simp only [PyData.weight]; exact b3⟩
        | dct _ => exact absurd h (by simp)
        | any => exact absurd h (by simp)
    | _ => exact absurd h (by simp [okA])
theorem showA_ok {μ : Store} {d : AD} (h : showA μ d = true) : okA μ 60 d = true ∧ (toPD μ 60 d).showable = true ∧ (toPD μ 60 d).hasDict = false ∧ (toPD μ 60 d).depth ≤ 62 ∧ (toPD μ 60 d).shown.length ≤ sizeLine := by
  unfold showA at h
  rw [Bool.and_eq_true] at h
  obtain ⟨h0, h⟩ := h
  obtain ⟨c1, c2⟩ := okA_can 60 d h0
  refine ⟨h0, ?_⟩
  rw [sizeLine_eq]
  rcases Bool.or_eq_true _ _ ▸ h with h | h <;> rw [Bool.and_eq_true] at h
  · obtain ⟨a1, a2, a3⟩ := showA_pd (b := 59) (by decide) (by decide) 60 d h0 h.1
    have hw : wtA μ 60 d ≤ 200000 := Nat.le_of_ble_eq_true h.2
    have := PyData.shown_le 60 (by decide) _ a2
    exact ⟨a1, PyData.hasDict_of_canLay _ c1, by omega, by omega⟩
  · obtain ⟨a1, a2, a3⟩ := showA_pd (b := 1920) (by decide) (by decide) 60 d h0 h.1
    have hw : wtA μ 60 d ≤ 8000 := Nat.le_of_ble_eq_true h.2
    have := PyData.shown_le 1921 (by decide) _ a2
    exact ⟨a1, PyData.hasDict_of_canLay _ c1, by omega, by omega⟩
def sameAs (f : AD → AD → Bool) : List AD → List AD → Bool
  | [], [] => true
  | a :: r, b :: s => f a b && sameAs f r s
  | _, _ => false
/-- alike in all that repr shows -/
def sameA (μ ν : Store) : Nat → AD → AD → Bool
  | 0, _, _ => false
  | k + 1, x, y => match x, y with
    | .non, .non => true
    | .bl a, .bl b => a == b
    | .int i, .int j => decide (i = j)
    | .str a, .str b => eqL (sL a) (sL b)
    | .tup xs, .tup ys => sameAs (sameA μ ν k) xs ys
    | x, y => (match lstM μ x with
      | some xs => (match lstM ν y with
        | some ys => sameAs (sameA μ ν k) xs ys
        | none => false)
      | none => false)
theorem lstM_pd {μ : Store} {k : Nat} {d : AD} {ds : List AD} (h : lstM μ d = some ds) : toPD μ (k + 1) d = .list (ds.map (toPD μ k)) := by
  cases d with
  | lst es => cases h; rfl
  | ref n =>
    simp only [lstM] at h
    simp only [toPD]
    cases e : μ[n]? with
    | none => rw [e] at h; cases h
    | some o =>
      rw [e] at h
      cases o with
      | lst es => cases h; rfl
      | dct _ => cases h
      | any => cases h
  | _ => cases h
theorem sameA_pd {μ ν : Store} : ∀ (k : Nat) (x y : AD), sameA μ ν k x y = true → toPD μ k x = toPD ν k y
  | 0, _, _, h => absurd h (by simp [sameA])
  | k + 1, x, y, h => by
    have go : ∀ (xs ys : List AD), sameAs (sameA μ ν k) xs ys = true → xs.map (toPD μ k) = ys.map (toPD ν k) := fun xs => by
      induction xs with
      | nil => intro ys h; cases ys with
        | nil => rfl
        | cons _ _ => simp [sameAs] at h
      | cons a r ih =>
        intro ys h
        cases ys with
        | nil => simp [sameAs] at h
        | cons b s =>
          simp only [sameAs, Bool.and_eq_true] at h
          rw [List.map_cons, List.map_cons, sameA_pd k a b h.1, ih s h.2]
    have ls : (match lstM μ x with
      | some xs => (match lstM ν y with
        | some ys => sameAs (sameA μ ν k) xs ys
        | none => false)
      | none => false) = true → toPD μ (k + 1) x = toPD ν (k + 1) y := fun z => by
      cases e1 : lstM μ x with
      | none => rw [e1] at z; exact absurd z (by simp)
      | some xs =>
        rw [e1] at z
        cases e2 : lstM ν y with
        | none => rw [e2] at z; exact absurd z (by simp)
        | some ys =>
          rw [e2] at z
          rw [lstM_pd e1, lstM_pd e2, go xs ys z]
    cases x <;> cases y <;> first
      | exact ls h
      | rfl
      | (simp only [sameA, beq_iff_eq] at h; rw [h]; rfl)
      | (simp only [sameA, decide_eq_true_eq] at h; rw [h]; rfl)
      | (simp only [sameA] at h; simp only [toPD]; rw [eqL_iff] at h; exact congrArg PyData.str (sL_inj h))
      | (simp only [sameA] at h; simp only [toPD]; rw [go _ _ h])
def eRep (b : Bool) (fa fb : SE) : SE := fun s μ => (fa s μ).bind fun x μ1 => chk (showA μ1 x) ((fb s μ1).bind fun y μ2 => chk (showA μ2 y && sameA μ1 μ2 60 x y) (.ok (.bl b) μ2))
section
variable {X : Cx} {w : Wo} {W : WX} {a b : Expr} {fa fb : SE} {p1 p2 p3 p4 pos : Pos}
theorem lift_rep {σ : L2.St} {H : Hp} {r : R2} {bb : Bool} {Q : VK} (hK : w.K = X.K) (hr : ∀ (z : Str) H' Q', Q' (V.bl bb) H' → r (.str z) (.str z) H' Q') (h : lift w W (eRep bb fa fb) σ H Q) :
    tOp r (tCB (rRepr X.K) (tCons (lift w W fa) tNil)) (tCB (rRepr X.K) (tCons (lift w W fb) tNil)) σ H Q := by
  obtain ⟨ρ, B, s, μ, rl, rs, o⟩ := h
  refine lift_one (R' := fun x H1 => rRepr X.K [x] H1 fun x H1 => tCB (rRepr X.K) (tCons (lift w W fb) tNil) σ H1 fun y H2 => r x y H2 Q) rl rs o fun x dx ρ1 B1 H1 μ1 l1 rl1 rs1 p1 o1 => ?_
  obtain ⟨hx, o1⟩ := chk_out o1
  obtain ⟨x1, x2, x3, x4, x5⟩ := showA_ok hx
  refine ⟨x, _, rfl, by rw [← hK]; exact okA_dp rl1 60 x dx p1 x1, x2, x3, x4, x5, ?_⟩
  refine lift_one (R' := fun y H2 => rRepr X.K [y] H2 fun y H2 => r (.str (toPD μ1 60 dx).shown) y H2 Q) rl1 rs1 o1 fun y dy ρ2 B2 H2 μ2 l2 rl2 rs2 p2 o2 => ?_
  obtain ⟨hy, o2⟩ := chk_out o2
  rw [Bool.and_eq_true] at hy
  obtain ⟨y1, y2, y3, y4, y5⟩ := showA_ok hy.1
  refine ⟨y, _, rfl, by rw [← hK]; exact okA_dp rl2 60 y dy p2 y1, y2, y3, y4, y5, ?_⟩
  rw [sameA_pd 60 dx dy hy.2]
  exact hr _ _ _ (out_now rl2 (.bl _) o2)
theorem r_repEq (hgd : X.A.guards = some []) (hu : X.A.units + 64 < cLine) (hg : Gl X "repr") (hm : X.mg "repr" = none) (ha : PE X a (lift w W fa)) (hb : PE X b (lift w W fb)) (hK : w.K = X.K := by rfl)
    (h1 : starEach [a] X.env = (false, eval a X.env) :: starEach [] X.env := by rfl) (h2 : starEach [b] X.env = (false, eval b X.env) :: starEach [] X.env := by rfl) :
    PE X (.Compare (.Call (.Name "repr" p1) [a] [] p2) [.Eq] [.Call (.Name "repr" p3) [b] [] p4] pos) (lift w W (eRep true fa fb)) :=
  PE_imp (pe_cmpR op_eq (pe_callB (call_reprD hgd hu) hg hm rfl (pa_cons ha pa_nil h1) (by decide) (by decide) h1 (by rfl)) (pe_callB (call_reprD hgd hu) hg hm rfl (pa_cons hb pa_nil h2) (by decide) (by decide) h2 (by rfl)) (nomark _)) fun σ H Q h =>
    lift_rep hK (fun z H' Q' q => ⟨rfl, by rw [decide_eq_true rfl]; exact q⟩) h
theorem r_repNe (hgd : X.A.guards = some []) (hu : X.A.units + 64 < cLine) (hg : Gl X "repr") (hm : X.mg "repr" = none) (ha : PE X a (lift w W fa)) (hb : PE X b (lift w W fb)) (hK : w.K = X.K := by rfl)
    (h1 : starEach [a] X.env = (false, eval a X.env) :: starEach [] X.env := by rfl) (h2 : starEach [b] X.env = (false, eval b X.env) :: starEach [] X.env := by rfl) :
    PE X (.Compare (.Call (.Name "repr" p1) [a] [] p2) [.NotEq] [.Call (.Name "repr" p3) [b] [] p4] pos) (lift w W (eRep false fa fb)) :=
  PE_imp (pe_cmpR op_ne (pe_callB (call_reprD hgd hu) hg hm rfl (pa_cons ha pa_nil h1) (by decide) (by decide) h1 (by rfl)) (pe_callB (call_reprD hgd hu) hg hm rfl (pa_cons hb pa_nil h2) (by decide) (by decide) h2 (by rfl)) (nomark _)) fun σ H Q h =>
    lift_rep hK (fun z H' Q' q => ⟨rfl, by rw [decide_eq_true rfl]; exact q⟩) h
end
end SC

set_option Elab.async false
set_option linter.all false
set_option maxRecDepth 100000
set_option maxHeartbeats 2000000
namespace SC
open PySem PySem.Spec PyProof.Rows L2
/-! ### keys of any depth -/
mutual
inductive NKV (K : PySem.W.Frag) (H : Hp) : NestedKey → V → Prop
  | non : NKV K H .none .non
  | bl (b : Bool) : NKV K H (.num (if b then 1 else 0)) (.bl b)
  | int (i : Int) : NKV K H (.num i) (.int i)
  | str (x : Str) : NKV K H (.text x) (.str x)
  | tup {a : Addr} {vs : List V} {ks : List NestedKey} : SqT K H a vs → NKVs K H ks vs → NKV K H (.tup ks) (.ref a)
inductive NKVs (K : PySem.W.Frag) (H : Hp) : List NestedKey → List V → Prop
  | nil : NKVs K H [] []
  | cons {k : NestedKey} {v : V} {ks : List NestedKey} {vs : List V} : NKV K H k v → NKVs K H ks vs → NKVs K H (k :: ks) (v :: vs)
end
section
variable {X : Cx} {pins : List (Addr × Obj)} {σ : L2.St} {H : Hp} {s : Shared}
theorem sqT_obj {a : Addr} {vs : List V} (I : Inv X pins σ H s) (h : SqT X.K H a vs) : ∃ (o : Obj) (its : Array Value) (n : Nat), s.heap.get? a = some o ∧ o.cls = .type "tuple" ∧ o.data = .seq its n ∧ Vals vs its.toList := by
  rcases h with h | ⟨o, its, n, e, c, d, _, r⟩
  · obtain ⟨_, its, r, ob, e, c⟩ := h.ok I.hok
    obtain ⟨c1, n, c2⟩ := c
    exact ⟨ob, _, n, e, c1, c2, by simpa using r⟩
  · exact ⟨o, its, n, I.kIn a o e, c, d, r⟩
mutual
theorem NKV.is (I : Inv X pins σ H s) : ∀ {k : NestedKey} {v : V} {u : Value}, NKV X.K H k v → RelV v u → NestedIs s.heap k u
  | _, _, _, .non, r => by cases (show _ = _ from r); exact .none
  | _, _, _, .bl b, r => by cases (show _ = _ from r); exact .bool rfl
  | _, _, _, .int i, r => by obtain ⟨t, rfl⟩ := r; exact .int i t
  | _, _, _, .str x, r => by obtain ⟨t, rfl⟩ := r; exact .text x t
  | _, _, _, .tup h q, r => by
    cases (show _ = _ from r)
    obtain ⟨o, its, n, e1, e2, e3, e4⟩ := sqT_obj I h
    exact .tup e1 e2 e3 (NKVs.is I q e4)
theorem NKVs.is (I : Inv X pins σ H s) : ∀ {ks : List NestedKey} {vs : List V} {us : List Value}, NKVs X.K H ks vs → Vals vs us → NestedAll s.heap ks us
  | _, _, _, .nil, .nil => .nil
  | _, _, _, .cons h q, .cons r t => .cons (NKV.is I h r) (NKVs.is I q t)
end
end
section
variable {w : Wo} {ρ : List Addr} {B H : Hp}
theorem nkv_rep (e : Ex B H) : ∀ (k : Nat) {v : V} {d : AD}, Rep w ρ B v d → okK k d = true → NKV w.K H (toNK k d) v ∧ (toNK k d).depth ≤ k
  | 0, v, d, r, h => by
    cases r with
    | non => exact ⟨.non, by simp [toNK, NestedKey.depth]⟩
    | bl b => exact ⟨.bl b, by simp [toNK, NestedKey.depth]⟩
    | int b => exact ⟨.int b, by simp [toNK, NestedKey.depth]⟩
    | str b => exact ⟨.str b, by simp [toNK, NestedKey.depth]⟩
    | _ => exact absurd h (by simp [okK])
  | k + 1, v, d, r, h => by
    have go : ∀ {vs : List V} {ds : List AD}, Reps w ρ B vs ds → ds.all (okK k) = true → NKVs w.K H (ds.map (toNK k)) vs ∧ NestedKey.depthAll (ds.map (toNK k)) ≤ k := fun {vs ds} q z => by
      induction ds generalizing vs with
      | nil => cases q; exact ⟨.nil, by simp [NestedKey.depthAll]⟩
      | cons a r ih =>
        cases q with
        | cons r1 q1 =>
          rw [List.all_cons, Bool.and_eq_true] at z
          obtain ⟨a1, a2⟩ := nkv_rep e k r1 z.1
          obtain ⟨b1, b2⟩ := ih q1 z.2
          exact ⟨.cons a1 b1, by simp only [List.map_cons, NestedKey.depthAll]; omega⟩
    cases r with
    | non => exact ⟨.non, by simp [toNK, NestedKey.depth]⟩
    | bl b => exact ⟨.bl b, by simp [toNK, NestedKey.depth]⟩
    | int b => exact ⟨.int b, by simp [toNK, NestedKey.depth]⟩
    | str b => exact ⟨.str b, by simp [toNK, NestedKey.depth]⟩
    | tup s q =>
      obtain ⟨b1, b2⟩ := go q h
      exact ⟨.tup (ex_t e s) b1, by simp only [toNK, NestedKey.depth]; omega⟩
    | _ => exact absurd h (by simp [okK])
end
/-! equality of keys -/
def numK : AD → Option Int
  | .bl b => some (if b then 1 else 0)
  | .int i => some i
  | _ => none
def eqK : Nat → AD → AD → Bool
  | 0, x, y => match x, y with
    | .non, .non => true
    | .str a, .str b => eqL (sL a) (sL b)
    | x, y => (match numK x with
      | some i => (match numK y with
        | some j => decide (i = j)
        | none => false)
      | none => false)
  | k + 1, x, y => match x, y with
    | .non, .non => true
    | .str a, .str b => eqL (sL a) (sL b)
    | .tup xs, .tup ys => sameAs (eqK k) xs ys
    | x, y => (match numK x with
      | some i => (match numK y with
        | some j => decide (i = j)
        | none => false)
      | none => false)
theorem str_dec (x y : Str) : decide (x = y) = eqL (sL x) (sL y) := by
  rw [Bool.eq_iff_iff, eqL_iff, decide_eq_true_eq]
  exact ⟨fun h => by rw [h], sL_inj⟩
theorem eqK_nk : ∀ (k : Nat) (x y : AD), okK k x = true → okK k y = true → NestedKey.beq (toNK k x) (toNK k y) = eqK k x y
  | 0, x, y, hx, hy => by
    cases x <;> first | (exact Bool.noConfusion hx) | skip
    all_goals (cases y <;> first | (exact Bool.noConfusion hy) | skip)
    all_goals first | (simp only [toNK, NestedKey.beq, eqK, numK]; done) | (simp only [toNK, NestedKey.beq, eqK, str_dec]; done) | (simp [toNK, NestedKey.beq, eqK, numK]; done)
  | k + 1, x, y, hx, hy => by
    have go : ∀ (xs ys : List AD), xs.all (okK k) = true → ys.all (okK k) = true → NestedKey.beqAll (xs.map (toNK k)) (ys.map (toNK k)) = sameAs (eqK k) xs ys := fun xs => by
      induction xs with
      | nil => intro ys _ _; cases ys <;> simp [NestedKey.beqAll, sameAs]
      | cons a r ih =>
        intro ys h1 h2
        cases ys with
        | nil => simp [NestedKey.beqAll, sameAs]
        | cons b s =>
          rw [List.all_cons, Bool.and_eq_true] at h1 h2
          simp only [List.map_cons, NestedKey.beqAll, sameAs]
          rw [eqK_nk k a b h1.1 h2.1, ih s h1.2 h2.2]
    cases x <;> first | (exact Bool.noConfusion hx) | skip
    all_goals (cases y <;> first | (exact Bool.noConfusion hy) | skip)
    all_goals first | (simp only [toNK, NestedKey.beq, eqK]; exact go _ _ hx hy) | (simp only [toNK, NestedKey.beq, eqK, numK]; done) | (simp only [toNK, NestedKey.beq, eqK, str_dec]; done) | (simp [toNK, NestedKey.beq, eqK, numK]; done)
/-! ### what stands at a key -/
def valD (xs : List (NestedKey × Addr × V)) (n : NestedKey) : Option V := match xs with
  | [] => none
  | (m, _, v) :: r => if NestedKey.beq m n then some v else valD r n
def mapD (xs : List (NestedKey × Addr × V)) (n : NestedKey) (v : V) : List (NestedKey × Addr × V) := match xs with
  | [] => []
  | (m, c, u) :: r => (m, c, if NestedKey.beq m n then v else u) :: mapD r n v
def putD (xs : List (NestedKey × Addr × V)) (n : NestedKey) (b : Addr) (v : V) : List (NestedKey × Addr × V) := if (valD xs n).isSome then mapD xs n v else xs ++ [(n, b, v)]
def dLook (kvs : List (AD × AD)) (y : AD) : Option AD := match kvs with
  | [] => none
  | (k, v) :: r => if eqK 8 k y then some v else dLook r y
def dMap (kvs : List (AD × AD)) (y v : AD) : List (AD × AD) := match kvs with
  | [] => []
  | (k, u) :: r => (k, if eqK 8 k y then v else u) :: dMap r y v
def dPut (kvs : List (AD × AD)) (y v : AD) : List (AD × AD) := match dLook kvs y with
  | some _ => dMap kvs y v
  | none => kvs ++ [(y, v)]
abbrev PD : List (NestedKey × Addr × V) → List (NestedKey × Addr × Value) → Prop := Paired fun (p : NestedKey × Addr × V) (q : NestedKey × Addr × Value) => p.1 = q.1 ∧ p.2.1 = q.2.1 ∧ RelV p.2.2 q.2.2
theorem beq_dec (m n : NestedKey) : NestedKey.beq m n = decide (m = n) := (NestedKey.decide_eq m n).symm
theorem PD.val {n : NestedKey} : ∀ {xs : List (NestedKey × Addr × V)} {vs : List (NestedKey × Addr × Value)}, PD xs vs → RelO (valD xs n) ((atKey vs n).map (·.2))
  | _, _, .nil => trivial
  | (m, c, v) :: r, (m', c', u) :: t, .cons ⟨h1, h2, h3⟩ q => by
    obtain rfl : m = m' := h1
    have ih := PD.val (n := n) q
    unfold valD atKey
    rw [beq_dec]
    by_cases e : m = n
    · simp only [List.find?_cons, e, decide_true, if_true, Option.map_some]
      exact h3
    · simp only [List.find?_cons, e, decide_false, Bool.false_eq_true, if_false]
      exact ih
theorem PD.keys : ∀ {xs : List (NestedKey × Addr × V)} {vs : List (NestedKey × Addr × Value)}, PD xs vs → xs.map (·.1) = vs.map (·.1)
  | _, _, .nil => rfl
  | _, _, .cons ⟨h1, h2, h3⟩ q => by rw [List.map_cons, List.map_cons, h1, PD.keys q]
theorem isSome_rel {o : Option V} {q : Option (Addr × Value)} (r : RelO o (q.map (·.2))) : o.isSome = q.isSome := by
  cases o <;> cases q <;> first | rfl | exact r.elim
theorem PD.map {n : NestedKey} {v : V} {u : Value} (ru : RelV v u) : ∀ {xs : List (NestedKey × Addr × V)} {vs : List (NestedKey × Addr × Value)}, PD xs vs → PD (mapD xs n v) (vs.map (putAt n u))
  | _, _, .nil => .nil
  | (m, c, w) :: r, (m', c', x) :: t, .cons ⟨h1, h2, h3⟩ q => by
    obtain rfl : m = m' := h1
    unfold mapD
    rw [beq_dec, List.map_cons]
    refine .cons ?_ (PD.map ru q)
    unfold putAt
    by_cases e : m = n
    · simp only [e, decide_true, if_true]; exact ⟨by trivial, h2, ru⟩
    · simp only [e, decide_false, Bool.false_eq_true, if_false]; exact ⟨by trivial, h2, h3⟩
theorem PD.snoc {n : NestedKey} {b : Addr} {v : V} {u : Value} (ru : RelV v u) : ∀ {xs : List (NestedKey × Addr × V)} {vs : List (NestedKey × Addr × Value)}, PD xs vs → PD (xs ++ [(n, b, v)]) (vs ++ [(n, b, u)])
  | _, _, .nil => .cons ⟨rfl, rfl, ru⟩ .nil
  | _, _, .cons h q => .cons h (PD.snoc ru q)
theorem PD.put {n : NestedKey} {b : Addr} {v : V} {u : Value} (ru : RelV v u) {xs : List (NestedKey × Addr × V)} {vs : List (NestedKey × Addr × Value)} (r : PD xs vs) : PD (putD xs n b v) (storedH vs n b u) := by
  unfold putD storedH
  rw [isSome_rel (r.val (n := n))]
  split
  · exact PD.map ru r
  · exact PD.snoc ru r
theorem mapD_len {n : NestedKey} {v : V} : ∀ xs : List (NestedKey × Addr × V), (mapD xs n v).length = xs.length
  | [] => rfl
  | (m, c, u) :: r => by unfold mapD; rw [List.length_cons, List.length_cons, mapD_len r]
theorem putD_len {n : NestedKey} {b : Addr} {v : V} (xs : List (NestedKey × Addr × V)) : (putD xs n b v).length ≤ xs.length + 1 := by
  unfold putD
  split
  · rw [mapD_len]; omega
  · simp
theorem putD_ne {n : NestedKey} {b : Addr} {v : V} (xs : List (NestedKey × Addr × V)) : putD xs n b v ≠ [] := by
  unfold putD
  split
  · rename_i h
    cases xs with
    | nil => simp [valD] at h
    | cons p r => obtain ⟨m, c, u⟩ := p; simp [mapD]
  · simp
def OptR (w : Wo) (ρ : List Addr) (B : Hp) : Option V → Option AD → Prop
  | none, none => True
  | some v, some d => Rep w ρ B v d
  | _, _ => False
section
variable {w : Wo} {ρ : List Addr} {B H : Hp}
theorem DReps.look {y : AD} (hy : okK 8 y = true) : ∀ {xs : List (NestedKey × Addr × V)} {kvs : List (AD × AD)}, DReps w ρ B xs kvs → OptR w ρ B (valD xs (toNK 8 y)) (dLook kvs y)
  | [], [], _ => trivial
  | [], _ :: _, h => h.elim
  | _ :: _, [], h => h.elim
  | (n, c, v) :: r, (k, d) :: s, ⟨h1, h2, h3, h4, h5⟩ => by
    subst h3
    unfold valD dLook
    rw [eqK_nk 8 k y h2 hy]
    by_cases e : eqK 8 k y = true
    · rw [if_pos e, if_pos e]; exact h4
    · rw [if_neg e, if_neg e]; exact DReps.look hy h5
theorem OptR.isSome {o : Option V} {q : Option AD} (r : OptR w ρ B o q) : o.isSome = q.isSome := by
  cases o <;> cases q <;> first | rfl | exact r.elim
theorem DReps.map {y d : AD} {v : V} (hy : okK 8 y = true) (rv : Rep w ρ B v d) : ∀ {xs : List (NestedKey × Addr × V)} {kvs : List (AD × AD)}, DReps w ρ B xs kvs → DReps w ρ B (mapD xs (toNK 8 y) v) (dMap kvs y d)
  | [], [], _ => trivial
  | [], _ :: _, h => h.elim
  | _ :: _, [], h => h.elim
  | (n, c, u) :: r, (k, z) :: s, ⟨h1, h2, h3, h4, h5⟩ => by
    subst h3
    unfold mapD dMap
    rw [eqK_nk 8 k y h2 hy]
    refine ⟨h1, h2, rfl, ?_, DReps.map hy rv h5⟩
    split
    · exact rv
    · exact h4
theorem DReps.snoc {y d : AD} {b : Addr} {v : V} (hy : okK 8 y = true) (ry : Rep w ρ B (.ref b) y) (rv : Rep w ρ B v d) : ∀ {xs : List (NestedKey × Addr × V)} {kvs : List (AD × AD)}, DReps w ρ B xs kvs → DReps w ρ B (xs ++ [(toNK 8 y, b, v)]) (kvs ++ [(y, d)])
  | [], [], _ => ⟨ry, hy, rfl, rv, trivial⟩
  | [], _ :: _, h => h.elim
  | _ :: _, [], h => h.elim
  | (n, c, u) :: r, (k, z) :: s, ⟨h1, h2, h3, h4, h5⟩ => ⟨h1, h2, h3, h4, DReps.snoc hy ry rv h5⟩
theorem DReps.put {y d : AD} {b : Addr} {v : V} (hy : okK 8 y = true) (ry : Rep w ρ B (.ref b) y) (rv : Rep w ρ B v d) {xs : List (NestedKey × Addr × V)} {kvs : List (AD × AD)} (h : DReps w ρ B xs kvs) : DReps w ρ B (putD xs (toNK 8 y) b v) (dPut kvs y d) := by
  unfold putD dPut
  rw [(h.look hy).isSome]
  cases dLook kvs y with
  | some _ => exact h.map hy rv
  | none => exact h.snoc hy ry rv
def KeysK (K : PySem.W.Frag) (H : Hp) (xs : List (NestedKey × Addr × V)) : Prop := ∀ x ∈ xs, NKV K H x.1 (.ref x.2.1) ∧ x.1.depth ≤ 8
theorem DReps.keys (e : Ex B H) : ∀ {xs : List (NestedKey × Addr × V)} {kvs : List (AD × AD)}, DReps w ρ B xs kvs → KeysK w.K H xs
  | [], [], _ => fun x h => absurd h (by simp)
  | [], _ :: _, h => h.elim
  | _ :: _, [], h => h.elim
  | (n, c, u) :: r, (k, z) :: s, ⟨h1, h2, h3, h4, h5⟩ => fun x h => by
    rcases List.mem_cons.mp h with rfl | h
    · subst h3
      exact nkv_rep e 8 h1 h2
    · exact DReps.keys e h5 x h
/-! flat ones -/
theorem flat_beq (a b : Key) : eqK 8 (keyAD a) (keyAD b) = decide (a = b) := by
  cases a <;> cases b
  · rw [key_ll]; simp only [keyAD, eqK, numK]; rw [Bool.eq_iff_iff]; simp
  · rw [key_lr]; rfl
  · rw [key_rl]; rfl
  · rw [key_rr, str_dec]; rfl
theorem KReps.look {k : Key} : ∀ {ks : List (Key × V)} {kvs : List (AD × AD)}, KReps w ρ B ks kvs → OptR w ρ B (valV ks k) (dLook kvs (keyAD k))
  | [], [], _ => trivial
  | [], _ :: _, h => h.elim
  | _ :: _, [], h => h.elim
  | (n, v) :: r, (a, d) :: s, ⟨h1, h2, h3⟩ => by
    subst h1
    unfold dLook
    rw [flat_beq]
    by_cases e : n = k
    · rw [valV_pos (p := (n, v)) e, if_pos (decide_eq_true e)]; exact h2
    · rw [valV_neg (p := (n, v)) e, if_neg (by rw [decide_eq_false e]; exact Bool.false_ne_true)]; exact KReps.look h3
theorem KReps.map {k : Key} {v : V} {d : AD} (rv : Rep w ρ B v d) : ∀ {ks : List (Key × V)} {kvs : List (AD × AD)}, KReps w ρ B ks kvs → KReps w ρ B (ks.map fun kv => if kv.1 = k then (kv.1, v) else kv) (dMap kvs (keyAD k) d)
  | [], [], _ => trivial
  | [], _ :: _, h => h.elim
  | _ :: _, [], h => h.elim
  | (n, u) :: r, (a, z) :: s, ⟨h1, h2, h3⟩ => by
    subst h1
    unfold dMap
    rw [flat_beq, List.map_cons]
    by_cases e : n = k
    · simp only [e, if_true, decide_true]; exact ⟨rfl, rv, KReps.map rv h3⟩
    · simp only [e, if_false, decide_false, Bool.false_eq_true]; exact ⟨rfl, h2, KReps.map rv h3⟩
theorem KReps.snoc {k : Key} {v : V} {d : AD} (rv : Rep w ρ B v d) : ∀ {ks : List (Key × V)} {kvs : List (AD × AD)}, KReps w ρ B ks kvs → KReps w ρ B (ks ++ [(k, v)]) (kvs ++ [(keyAD k, d)])
  | [], [], _ => ⟨rfl, rv, trivial⟩
  | [], _ :: _, h => h.elim
  | _ :: _, [], h => h.elim
  | (n, u) :: r, (a, z) :: s, ⟨h1, h2, h3⟩ => ⟨h1, h2, KReps.snoc rv h3⟩
theorem KReps.put {k : Key} {v : V} {d : AD} (rv : Rep w ρ B v d) {ks : List (Key × V)} {kvs : List (AD × AD)} (h : KReps w ρ B ks kvs) : KReps w ρ B (putK ks k v) (dPut kvs (keyAD k) d) := by
  have e := (h.look (k := k)).isSome
  unfold putK dPut
  rw [valV_any, e]
  cases dLook kvs (keyAD k) with
  | some _ => exact h.map rv
  | none => exact h.snoc rv
end
end SC

set_option Elab.async false
set_option linter.all false
set_option maxRecDepth 100000
set_option maxHeartbeats 2000000
namespace SC
open PySem PySem.Spec PyProof.Rows L2
/-! ### the walks -/
def DeepAt (K : PySem.W.Frag) (P : Program) (wd : World) (H : Hp) (a : Addr) (xs : List (NestedKey × Addr × V)) : Prop := (H a = some (deepO P wd a xs) ∧ KeysK K H xs) ∨ (xs = [] ∧ H a = some (.dK []))
section
variable {X : Cx} {pins : List (Addr × Obj)} {σ : L2.St} {H : Hp} {s : Shared} {a b : Addr} {xs : List (NestedKey × Addr × V)} {n : NestedKey}
theorem PD.mem : ∀ {xs : List (NestedKey × Addr × V)} {vs : List (NestedKey × Addr × Value)}, PD xs vs → ∀ q ∈ vs, ∃ p ∈ xs, p.1 = q.1 ∧ p.2.1 = q.2.1
  | _, _, .nil => fun _ h => absurd h (by simp)
  | _, _, .cons ⟨h1, h2, _⟩ r => fun q h => by
    rcases List.mem_cons.mp h with rfl | h
    · exact ⟨_, List.mem_cons_self, h1, h2⟩
    · obtain ⟨p, hp, z⟩ := PD.mem r q h
      exact ⟨p, List.mem_cons_of_mem _ hp, z⟩
theorem nkey_is (I : Inv X pins σ H s) (h : NKV X.K H n (.ref b)) (hd : n.depth ≤ 8) : (nestedKind X.prog X.w).is s.heap n b := ⟨NKV.is I h rfl, hd⟩
theorem deep_at (I : Inv X pins σ H s) (h : DeepAt X.K X.prog X.w H a xs) : (a == sysModules) = false ∧ xs.length ≤ sizeLine ∧ ∃ vs, PD xs vs ∧ s.heap.DictOfH (nestedKind X.prog X.w) a vs := by
  rcases h with ⟨h, k⟩ | ⟨rfl, h⟩
  · obtain ⟨⟨vs, r, h1, h2, o, es, ep, e1, e2, e3, e4, e5⟩, _⟩ := I.hok a _ h
    refine ⟨h1, h2, vs, r, o, es, ep, e1, e2, e3, e4, fun q hq => ?_, e5⟩
    obtain ⟨p, hp, z1, z2⟩ := PD.mem r q hq
    obtain ⟨k1, k2⟩ := k p hp
    rw [← z1, ← z2]
    exact nkey_is I k1 k2
  · obtain ⟨hz, hd, vs, rel, o, es, ep, e1, e2, e3, e4⟩ := dk_of I.hok h
    cases rel
    refine ⟨hd, Nat.zero_le _, [], .nil, o, es, ep, e1, e2, e3, ?_, fun _ hq => absurd hq (by simp), List.nodup_nil⟩
    obtain ⟨_, e5, _⟩ := e4
    cases hh : es.toList with
    | nil => rfl
    | cons x l => rw [hh] at e5; cases e5
theorem deep_code (I : Inv X pins σ H s) (h : H a = some (deepO X.prog X.w a xs)) (q : Str) : deepO X.prog X.w a xs ≠ LamX.CodeO a q := fun z => by
  obtain ⟨p, _⟩ := I.hok a _ h
  have hf := HO.ext.inj z
  obtain ⟨vs, r, h1, h2, o, es, ep, e1, e2, e3, e4, e5⟩ := id p
  have p' := (congrFun hf s.heap) ▸ p
  obtain ⟨oc, fs, t, f1, f2, f3⟩ := p'
  rw [e1] at f1
  cases f1
  rw [e3] at f2
  cases f2
variable {A : Around} {E : Value → Shared → Prop} {y v : V} {u r : Value} {o : Option V}
/-- what stands in the dict at a at the key y -/
def DGetA (K : PySem.W.Frag) (P : Program) (wd : World) (H : Hp) (a : Addr) (y : V) (r : Option V) : Prop := DGet H a y r ∨ ∃ xs n b, DeepAt K P wd H a xs ∧ y = .ref b ∧ NKV K H n (.ref b) ∧ n.depth ≤ 8 ∧ r = valD xs n
def DPutA (K : PySem.W.Frag) (P : Program) (wd : World) (H : Hp) (a : Addr) (y v : V) (H' : Hp) : Prop := DPut H a y v H' ∨ ∃ xs n b, DeepAt K P wd H a xs ∧ y = .ref b ∧ NKV K H n (.ref b) ∧ n.depth ≤ 8 ∧ xs.length < sizeLine ∧ H' = upd H a (deepO P wd a (putD xs n b v))
def NoCo (P : Program) (wd : World) (H : Hp) (a : Addr) : Prop := ∀ xs, H a = some (deepO P wd a xs) → ∀ q, deepO P wd a xs ≠ LamX.CodeO a q
theorem room9 (hu : A.units + 16 < cLine) : (nestedKind X.prog X.w).room A.in1 := by show A.units + 1 + 8 < cLine; omega
theorem d_getItemA {Q : Value → Shared → Prop} (hu : A.units + 16 < cLine) (I : Inv X pins σ H s) (g : DGetA X.K X.prog X.w H a y (some v)) (ry : RelV y u) (h : ∀ w' s', Inv X pins σ H s' → RelV v w' → Q w' s') :
    wpAny (model X.prog X.w) A (getItem (.ref a) u) Q E s := by
  rcases g with g | ⟨xs, n, b, g, rfl, hk, hd, e⟩
  · exact d_getItem (by omega) I g ry h
  · cases (show u = Value.ref b from ry)
    obtain ⟨z1, z2, vs, rel, dd⟩ := deep_at I g
    obtain ⟨w', hw, rw'⟩ := RelO.some_of (v := v) (o := (atKey vs n).map (·.2)) (by rw [e]; exact rel.val)
    obtain ⟨p, hp, hp2⟩ := Option.map_eq_some_iff.mp hw
    refine wpAny_getItem_heap (room9 hu) (nkey_is I hk hd) dd hp ?_
    rw [hp2]
    exact h w' _ (I.tok _) rw'
theorem d_inA {Q : Value → Shared → Prop} (hu : A.units + 16 < cLine) (I : Inv X pins σ H s) (g : DGetA X.K X.prog X.w H a y o) (ry : RelV y u) (h : ∀ s', Inv X pins σ H s' → Q (.bool o.isSome) s') :
    wpAny (model X.prog X.w) A (compareOp .In u (.ref a)) Q E s := by
  rcases g with g | ⟨xs, n, b, g, rfl, hk, hd, e⟩
  · exact d_in (by omega) I g ry h
  · cases (show u = Value.ref b from ry)
    obtain ⟨z1, z2, vs, rel, dd⟩ := deep_at I g
    refine wpAny_in_heap (room9 hu) (nkey_is I hk hd) z1 dd ?_
    rw [← isSome_rel (rel.val (n := n)), ← e]
    exact h _ (I.tok _)
theorem d_notInA {Q : Value → Shared → Prop} (hu : A.units + 16 < cLine) (I : Inv X pins σ H s) (g : DGetA X.K X.prog X.w H a y o) (ry : RelV y u) (h : ∀ s', Inv X pins σ H s' → Q (.bool (!o.isSome)) s') :
    wpAny (model X.prog X.w) A (compareOp .NotIn u (.ref a)) Q E s := by
  rcases g with g | ⟨xs, n, b, g, rfl, hk, hd, e⟩
  · exact d_notIn (by omega) I g ry h
  · cases (show u = Value.ref b from ry)
    obtain ⟨z1, z2, vs, rel, dd⟩ := deep_at I g
    refine wpAny_notIn_heap (room9 hu) (nkey_is I hk hd) z1 dd ?_
    rw [← isSome_rel (rel.val (n := n)), ← e]
    exact h _ (I.tok _)
theorem deep_mut (h : DeepAt X.K X.prog X.w H a xs) : Mut (H a) := by
  rcases h with ⟨h, k⟩ | ⟨rfl, h⟩
  · rw [h]; exact True.intro
  · rw [h]; exact True.intro
theorem deep_new {v' : V} {r' : Value} {vs : List (NestedKey × Addr × Value)} {h' : Heap} {tk : Nat} (I : Inv X pins σ H s) (g : DeepAt X.K X.prog X.w H a xs) (z1 : (a == sysModules) = false) (rel : PD xs vs) (hl : xs.length < sizeLine) (rv : RelV v' r')
    (dd : h'.DictOfH (nestedKind X.prog X.w) a (storedH vs n b r')) (hs : Heap.SameBut a s.heap h') : Inv X pins σ (upd H a (deepO X.prog X.w a (putD xs n b v'))) { s with heap := h', toks := tk } := by
  obtain ⟨q, es, ep, hq, h2, h3, h4, _, h5⟩ := dd
  have hl2 : (putD xs n b v').length ≤ sizeLine := Nat.le_trans (putD_len xs) hl
  refine d_write I (deep_mut g) hs ⟨q, hq⟩ ⟨⟨_, rel.put rv, z1, hl2, q, es, ep, hq, h2, h3, h4, h5⟩, ⟨q, hq⟩, fun g1 g2 ⟨ws, r1, r2, r3, o', es', ep', e1, e2⟩ k => ⟨ws, r1, r2, r3, o', es', ep', k o' e1, e2⟩⟩
theorem d_setItemA {H' : Hp} {Q : Unit → Shared → Prop} (hu : A.units + 16 < cLine) (I : Inv X pins σ H s) (g : DPutA X.K X.prog X.w H a y v H') (ry : RelV y u) (rv : RelV v r) (h : ∀ s', Inv X pins σ H' s' → Q () s') :
    wpAny (model X.prog X.w) A (setItem (.ref a) u r) Q E s := by
  rcases g with g | ⟨xs, n, b, g, rfl, hk, hd, hl, rfl⟩
  · exact d_setItem (by omega) I g ry rv h
  · cases (show u = Value.ref b from ry)
    obtain ⟨z1, z2, vs, rel, dd⟩ := deep_at I g
    refine wpAny_setItem_heap (hsz := by rw [← Paired.length rel]; exact z2) (room9 hu) (nkey_is I hk hd) dd fun h' dd' hs => h _ (deep_new I g z1 rel hl rv dd' hs)
end
/-! ### the rules in HandS -/
section
variable {X : Cx}
def rGetA (K : PySem.W.Frag) (P : Program) (wd : World) : R2 := fun x y H Q => ∃ a v, x = .ref a ∧ DGetA K P wd H a y (some v) ∧ Q v H
theorem dget_ty {pins : List (Addr × Obj)} {σ : L2.St} {H : Hp} {s : Shared} {a : Addr} {y : V} {o : Option V} (I : Inv X pins σ H s) (g : DGetA X.K X.prog X.w H a y o) : s.TypeIs (.ref a) "dict" := by
  rcases g with g | ⟨xs, n, b, g, _⟩
  · exact dict_typeIs I g
  · obtain ⟨_, _, vs, _, dd⟩ := deep_at I g
    exact dd.typeIs
theorem ix_dictA (hu : X.A.units + 16 < cLine) : IxR X (rGetA X.K X.prog X.w) := by
  intro value slice pins s σ H x y v u Q I rx ry h hs
  obtain ⟨a, r, rfl, g, q⟩ := h
  obtain rfl : v = Value.ref a := rx
  exact tail_any (dget_ty I g) slot_dict_getitem.lookup (d_getItemA hu I g ry fun w' s' I' rw' => ⟨r, H, I', rw', q⟩) hs
def rInD (K : PySem.W.Frag) (P : Program) (wd : World) (neg : Bool) : R2 := fun y x H Q => ∃ a o, x = .ref a ∧ DGetA K P wd H a y o ∧ Q (.bl (if neg then !o.isSome else o.isSome)) H
theorem op_inD (hu : X.A.units + 16 < cLine) : OpR X (compareOp .In) (rInD X.K X.prog X.w false) := by
  intro pins s σ H y x u v Q I ry rx h
  obtain ⟨a, o, rfl, g, q⟩ := h
  obtain rfl : v = Value.ref a := rx
  exact d_inA hu I g ry fun s' I' => ⟨.bl o.isSome, H, I', rfl, q⟩
theorem op_notInD (hu : X.A.units + 16 < cLine) : OpR X (compareOp .NotIn) (rInD X.K X.prog X.w true) := by
  intro pins s σ H y x u v Q I ry rx h
  obtain ⟨a, o, rfl, g, q⟩ := h
  obtain rfl : v = Value.ref a := rx
  exact d_notInA hu I g ry fun s' I' => ⟨.bl (!o.isSome), H, I', rfl, q⟩
def rSetD (K : PySem.W.Frag) (P : Program) (wd : World) : V → V → V → Hp → (Hp → Prop) → Prop := fun o i v H Q => ∃ a H', o = .ref a ∧ DPutA K P wd H a i v H' ∧ (NoCo P wd H' a → Q H')
theorem set_dictA (hu : X.A.units + 16 < cLine) : PSet X (rSetD X.K X.prog X.w) := by
  intro pins s σ H o i v ov iv u Q I ro ri rv h
  obtain ⟨a, H', rfl, g, q⟩ := h
  obtain rfl : ov = Value.ref a := ro
  exact d_setItemA hu I g ri rv fun s' I' => ⟨H', I', q fun xs e c => deep_code I' e c⟩
theorem PSet.or {r r' : TSet} (h : PSet X r) (h' : PSet X r') : PSet X (fun o i v H Q => r o i v H Q ∨ r' o i v H Q) := by
  intro pins s σ H o i v ov iv u Q I ro ri rv q
  rcases q with q | q
  · exact h pins s σ H o i v ov iv u Q I ro ri rv q
  · exact h' pins s σ H o i v ov iv u Q I ro ri rv q
end
end SC

set_option Elab.async false
set_option linter.all false
set_option maxRecDepth 100000
set_option maxHeartbeats 2000000
namespace SC
open PySem PySem.Spec PyProof.Rows L2
/-! ### dicts of one's own, as data -/
def isFK : AD → Bool
  | .int _ => true
  | .str _ => true
  | _ => false
def isTK : AD → Bool
  | .tup ds => okK 8 (.tup ds)
  | _ => false
def keyOk (kvs : List (AD × AD)) (y : AD) : Bool := (isFK y && kvs.all fun p => isFK p.1) || (isTK y && kvs.all fun p => isTK p.1)
def dctD (μ : Store) : AD → Option (Nat × List (AD × AD))
  | .ref n => (match μ[n]? with
    | some (.dct kvs) => some (n, kvs)
    | _ => none)
  | _ => none
section
variable {w : Wo} {ρ : List Addr} {B H : Hp} {μ : Store}
theorem KReps.len : ∀ {ks : List (Key × V)} {kvs : List (AD × AD)}, KReps w ρ B ks kvs → ks.length = kvs.length
  | [], [], _ => rfl
  | [], _ :: _, h => h.elim
  | _ :: _, [], h => h.elim
  | (_, _) :: _, (_, _) :: _, ⟨_, _, h⟩ => congrArg (· + 1) (KReps.len h)
theorem DReps.len : ∀ {xs : List (NestedKey × Addr × V)} {kvs : List (AD × AD)}, DReps w ρ B xs kvs → xs.length = kvs.length
  | [], [], _ => rfl
  | [], _ :: _, h => h.elim
  | _ :: _, [], h => h.elim
  | (_, _, _) :: _, (_, _) :: _, ⟨_, _, _, _, h⟩ => congrArg (· + 1) (DReps.len h)
theorem flat_key {v : V} {y : AD} (h : isFK y = true) (p : Rep w ρ B v y) : ∃ k : Key, v = kV k ∧ y = keyAD k := by
  cases p with
  | int i => exact ⟨.inl i, rfl, rfl⟩
  | str x => exact ⟨.inr x, rfl, rfl⟩
  | _ => cases h
theorem tup_key {v : V} {y : AD} (e : Ex B H) (h : isTK y = true) (p : Rep w ρ B v y) : okK 8 y = true ∧ ∃ b, v = .ref b ∧ NKV w.K H (toNK 8 y) (.ref b) ∧ (toNK 8 y).depth ≤ 8 := by
  cases p with
  | tup s q =>
    have h : okK 8 (.tup _) = true := h
    obtain ⟨a, b⟩ := nkv_rep e 8 (.tup s q) h
    exact ⟨h, _, rfl, a, b⟩
  | _ => cases h
theorem keyAD_tk (k : Key) : isTK (keyAD k) = false := by cases k <;> rfl
/-- the two shapes -/
theorem dct_flat {ks : List (Key × V)} {kvs : List (AD × AD)} {y : AD} (h : KReps w ρ B ks kvs) (hk : keyOk kvs y = true) (ht : isTK y = true) : ks = [] ∧ kvs = [] := by
  cases ks with
  | nil => cases kvs with
    | nil => exact ⟨rfl, rfl⟩
    | cons _ _ => exact h.elim
  | cons p r =>
    cases kvs with
    | nil => exact h.elim
    | cons q s =>
      obtain ⟨k, v⟩ := p
      obtain ⟨a, d⟩ := q
      obtain ⟨h1, _, _⟩ := h
      subst h1
      unfold keyOk at hk
      rw [Bool.or_eq_true, Bool.and_eq_true, Bool.and_eq_true, List.all_cons, List.all_cons, keyAD_tk] at hk
      rcases hk with ⟨z, _⟩ | ⟨_, z⟩
      · cases y <;> first | (cases ht; done) | cases z
      · simp at z
theorem dct_deep {xs : List (NestedKey × Addr × V)} {kvs : List (AD × AD)} {y : AD} (h : DReps w ρ B xs kvs) (hn : xs ≠ []) (hk : keyOk kvs y = true) (ht : isFK y = true) : False := by
  cases xs with
  | nil => exact hn rfl
  | cons p r =>
    cases kvs with
    | nil => exact h
    | cons q s =>
      obtain ⟨n, c, v⟩ := p
      obtain ⟨a, d⟩ := q
      obtain ⟨h1, _, _, _, _⟩ := h
      unfold keyOk at hk
      rw [Bool.or_eq_true, Bool.and_eq_true, Bool.and_eq_true, List.all_cons, List.all_cons] at hk
      rcases hk with ⟨_, z⟩ | ⟨z, _⟩
      · rw [Bool.and_eq_true] at z
        cases h1 <;> cases z.1
      · cases y <;> first | (cases ht; done) | cases z
theorem keyOk_or {kvs : List (AD × AD)} {y : AD} (h : keyOk kvs y = true) : isFK y = true ∨ isTK y = true := by
  unfold keyOk at h
  rw [Bool.or_eq_true, Bool.and_eq_true, Bool.and_eq_true] at h
  exact h.imp (·.1) (·.1)
theorem dctD_ok {v : V} {x : AD} {n : Nat} {kvs : List (AD × AD)} (rl : Rl w ρ B μ H) (p : Rep w ρ B v x) (h : dctD μ x = some (n, kvs)) : ∃ a, v = .ref a ∧ ρ[n]? = some a ∧ μ[n]? = some (.dct kvs) ∧ OkO w ρ B H a (.dct kvs) := by
  cases p with
  | @ref a m hm =>
    obtain ⟨o, e1, e2⟩ := rl.obj m a hm
    unfold dctD at h
    simp only [e1] at h
    cases o with
    | dct l => cases h; exact ⟨a, rfl, hm, e1, e2⟩
    | lst _ => cases h
    | any => cases h
  | _ => cases h
theorem dget_ok {a : Addr} {vy : V} {y : AD} {kvs : List (AD × AD)} (rl : Rl w ρ B μ H) (ok : OkO w ρ B H a (.dct kvs)) (p : Rep w ρ B vy y) (hk : keyOk kvs y = true) : ∃ r, DGetA w.K w.prog w.wd H a vy r ∧ OptR w ρ B r (dLook kvs y) := by
  rcases keyOk_or hk with hf | ht
  · obtain ⟨k, rfl, rfl⟩ := flat_key hf p
    rcases ok with ⟨ks, h1, h2⟩ | ⟨xs, h1, h2, h3, h4⟩
    · exact ⟨_, .inl (.inl ⟨ks, k, .inl h1, rfl, rfl⟩), h2.look⟩
    · exact (dct_deep h2 h3 hk hf).elim
  · obtain ⟨hy, b, rfl, k1, k2⟩ := tup_key rl.ex ht p
    rcases ok with ⟨ks, h1, h2⟩ | ⟨xs, h1, h2, h3, h4⟩
    · obtain ⟨rfl, rfl⟩ := dct_flat h2 hk ht
      exact ⟨none, .inr ⟨[], _, b, .inr ⟨rfl, h1⟩, rfl, k1, k2, rfl⟩, trivial⟩
    · exact ⟨_, .inr ⟨xs, _, b, .inl ⟨h1, h2.keys rl.ex⟩, rfl, k1, k2, rfl⟩, h2.look hy⟩
theorem dput_ok {a : Addr} {n : Nat} {vy v : V} {y d : AD} {kvs : List (AD × AD)} (rl : Rl w ρ B μ H) (hn : ρ[n]? = some a) (ok : OkO w ρ B H a (.dct kvs)) (p : Rep w ρ B vy y) (q : Rep w ρ B v d) (hk : keyOk kvs y = true) (hl : kvs.length < sizeLine) :
    ∃ H', DPutA w.K w.prog w.wd H a vy v H' ∧ (NoCo w.prog w.wd H' a → Rl w ρ B (μ.set n (.dct (dPut kvs y d))) H' ∧ Le ρ B H ρ B H') := by
  rcases keyOk_or hk with hf | ht
  · obtain ⟨k, rfl, rfl⟩ := flat_key hf p
    rcases ok with ⟨ks, h1, h2⟩ | ⟨xs, h1, h2, h3, h4⟩
    · exact ⟨_, .inl (.inl ⟨ks, k, h1, rfl, by rw [h2.len]; exact hl, rfl⟩), fun _ => rl.write hn (.inl ⟨_, upd_same, h2.put q⟩)⟩
    · exact (dct_deep h2 h3 hk hf).elim
  · obtain ⟨hy, b, rfl, k1, k2⟩ := tup_key rl.ex ht p
    rcases ok with ⟨ks, h1, h2⟩ | ⟨xs, h1, h2, h3, h4⟩
    · obtain ⟨rfl, rfl⟩ := dct_flat h2 hk ht
      refine ⟨_, .inr ⟨[], _, b, .inr ⟨rfl, h1⟩, rfl, k1, k2, by simpa using hl, rfl⟩, fun nc => rl.write hn (.inr ⟨_, upd_same, ?_, putD_ne _, nc _ upd_same⟩)⟩
      exact DReps.put hy p q (xs := []) (kvs := []) trivial
    · exact ⟨_, .inr ⟨xs, _, b, .inl ⟨h1, h2.keys rl.ex⟩, rfl, k1, k2, by rw [h2.len]; exact hl, rfl⟩, fun nc => rl.write hn (.inr ⟨_, upd_same, h2.put hy p q, putD_ne _, nc _ upd_same⟩)⟩
end
/-! ### {} -/
def eDnew : SE := fun _ μ => .ok (.ref μ.length) (μ ++ [.dct []])
section
variable {X : Cx} {w : Wo} {W : WX} {pos : Pos}
theorem r_dnew : PE X (.Dict [] [] pos) (lift w W eDnew) :=
  PE_imp pe_dnewK fun σ H Q ⟨ρ, B, s, μ, rl, rs, o⟩ => fun p hp => by
    obtain ⟨k1, k2⟩ := rl.own (ao := .dct []) (o := .dK []) hp (.inl ⟨[], upd_same, trivial⟩)
    exact o _ _ _ _ k2 k1 (.ref (by rw [← rl.len]; simp))
/-! ### a[b], of a dict too -/
def rIxAD (w : Wo) : R2 := fun x y H Q => rIxA w.K x y H Q ∨ rGetA w.K w.prog w.wd x y H Q
theorem x_ixD (hu : X.A.units + 16 < cLine) (hK : w.K = X.K := by rfl) (hP : w.prog = X.prog := by rfl) (hW : w.wd = X.w := by rfl) : IxR X (rIxAD w) := by
  unfold rIxAD
  rw [hK, hP, hW]
  exact x_ix.or (ix_dictA hu)
def aIxD : AD → AD → Store → R AD := fun x y μ => match dctD μ x with
  | some (_, kvs) => (if keyOk kvs y then (match dLook kvs y with
    | some d => .ok d μ
    | none => .bad) else .bad)
  | none => aIx x y μ
theorem s_ixD : OpS w (rIxAD w) aIxD := by
  intro W x y dx dy ρ B H μ Q rl px py o
  unfold aIxD at o
  cases e : dctD μ dx with
  | none => rw [e] at o; exact .inl (s_ix W x y dx dy ρ B H μ Q rl px py o)
  | some nk =>
    obtain ⟨n, kvs⟩ := nk
    rw [e] at o
    simp only at o
    split at o
    rotate_left
    · exact o.elim
    rename_i hk
    obtain ⟨a, rfl, h1, h2, h3⟩ := dctD_ok rl px e
    obtain ⟨r, g, z⟩ := dget_ok rl h3 py hk
    cases e2 : dLook kvs dy with
    | none => rw [e2] at o; exact o.elim
    | some d =>
      rw [e2] at o z
      cases r with
      | none => exact z.elim
      | some v => exact .inr ⟨a, v, rfl, g, out_now rl z o⟩
/-! ### in -/
def rInAD (w : Wo) (neg : Bool) : R2 := fun x y H Q => rInA w.K neg x y H Q ∨ rInD w.K w.prog w.wd neg x y H Q
theorem o_inD (hu : X.A.units + 16 < cLine) (hK : w.K = X.K := by rfl) (hP : w.prog = X.prog := by rfl) (hW : w.wd = X.w := by rfl) : OpR X (compareOp .In) (rInAD w false) := by
  unfold rInAD
  rw [hK, hP, hW]
  exact o_in.or (op_inD hu)
theorem o_notinD (hu : X.A.units + 16 < cLine) (hK : w.K = X.K := by rfl) (hP : w.prog = X.prog := by rfl) (hW : w.wd = X.w := by rfl) : OpR X (compareOp .NotIn) (rInAD w true) := by
  unfold rInAD
  rw [hK, hP, hW]
  exact o_notin.or (op_notInD hu)
def isSm : Option AD → Bool
  | some _ => true
  | none => false
def aInGD (neg : Bool) : AD → AD → Store → R AD := fun x y μ => match dctD μ y with
  | some (_, kvs) => chk (keyOk kvs x) (.ok (.bl (if neg then !isSm (dLook kvs x) else isSm (dLook kvs x))) μ)
  | none => aInG neg x y μ
theorem s_inGD {neg : Bool} : OpS w (rInAD w neg) (aInGD neg) := by
  intro W x y dx dy ρ B H μ Q rl px py o
  unfold aInGD at o
  cases e : dctD μ dy with
  | none => rw [e] at o; exact .inl (s_inG W x y dx dy ρ B H μ Q rl px py o)
  | some nk =>
    obtain ⟨n, kvs⟩ := nk
    rw [e] at o
    obtain ⟨hk, o⟩ := chk_out o
    obtain ⟨a, rfl, h1, h2, h3⟩ := dctD_ok rl py e
    obtain ⟨r, g, z⟩ := dget_ok rl h3 px hk
    have ez : isSm (dLook kvs dx) = r.isSome := by
      rw [z.isSome]
      cases dLook kvs dx <;> rfl
    rw [ez] at o
    exact .inr ⟨a, r, rfl, g, out_now rl (.bl _) o⟩
/-! ### a[i] = v, of a dict too -/
def aSetD (x y v : AD) (μ : Store) : Option Store := match dctD μ x with
  | some (n, kvs) => if keyOk kvs y && decide (kvs.length < sizeLine) then some (μ.set n (.dct (dPut kvs y v))) else none
  | none => aSetI x y v μ
def gSetD (fo fi : SE) : AD → SS := fun v s μ => (fo s μ).st s fun x μ1 => (fi s μ1).st s fun y μ2 => match aSetD x y v μ2 with
  | some μ3 => .nx s μ3
  | none => .bad
theorem seti_ok {ρ : List Addr} {B H : Hp} {μ μ3 : Store} {x y v : V} {dx dy d : AD} (rl : Rl w ρ B μ H) (p1 : Rep w ρ B x dx) (p2 : Rep w ρ B y dy) (rp : Rep w ρ B v d) (h : aSetI dx dy d μ = some μ3) : ∃ H', (∀ Q : Hp → Prop, Q H' → rSetL x y v H Q) ∧ Rl w ρ B μ3 H' ∧ Le ρ B H ρ B H' := by
  cases p1 with
  | @ref a n hn =>
    cases p2 with
    | int k =>
      obtain ⟨ob, e1, e2⟩ := rl.obj n a hn
      unfold aSetI at h
      simp only [e1] at h
      cases ob with
      | dct _ => cases h
      | any => cases h
      | lst zs =>
        simp only at h
        obtain ⟨us, g1, g2⟩ := e2
        cases e3 : ixN zs.length k with
        | none => rw [e3] at h; cases h
        | some j =>
          rw [e3] at h
          cases h
          obtain ⟨w1, w2⟩ := rl.write (ao := .lst (zs.set j d)) (o := .lst (us.set j v)) hn ⟨_, upd_same, g2.set rp j⟩
          exact ⟨_, fun Q q => ⟨a, us, k, j, rfl, rfl, g1, by rw [g2.length]; exact e3, q⟩, w1, w2⟩
    | _ => cases h
  | _ => cases h
theorem rg_setD {o i : Expr} {fo fi : SE} {pos : Pos} (hu : X.A.units + 16 < cLine) (ho : PE X o (lift w W fo)) (hi : PE X i (lift w W fi)) (hK : w.K = X.K := by rfl) (hP : w.prog = X.prog := by rfl) (hW : w.wd = X.w := by rfl)
    (ha : ∀ v, assign (.Subscript o i pos) X.env v = (do
      let ov ← holding [v] (eval o X.env)
      let iv ← holding [v, ov] (eval i X.env)
      standAt pos
      holding [v, ov, iv] (setItem ov iv v)
      release [v, ov, iv] []) := by intro _; rfl) : PG X (.Subscript o i pos) (liftG w W (gSetD fo fi)) :=
  ⟨fun pins s σ H v u Q I r h' => (pg_sub ho hi (PSet.or set_list (set_dictA hu)) ha).run pins s σ H v u Q I r (by
    obtain ⟨ρ, B, s, μ, d, rl, rs, rp, o⟩ := h'
    have o : SOut w W ρ B H ((fo s μ).st s fun x μ1 => (fi s μ1).st s fun y μ2 => match aSetD x y d μ2 with | some μ3 => .nx s μ3 | none => .bad) { nx := Q, rt := fun _ _ => False } := o
    refine ⟨ρ, B, s, μ, rl, rs, Out.imp (SOut.st rs o) fun x H1 ⟨ρ1, B1, dx, μ1, l1, rl1, p1, o1⟩ => ?_⟩
    refine ⟨ρ1, B1, s, μ1, rl1, rs.le l1, Out.imp (SOut.st (rs.le l1) o1) fun y H2 ⟨ρ2, B2, dy, μ2, l2, rl2, p2, o2⟩ => ?_⟩
    have p1 := p1.mono l2.ex l2.pre
    have rp := (rp.mono l1.ex l1.pre).mono l2.ex l2.pre
    cases e : aSetD dx dy d μ2 with
    | none => rw [e] at o2; exact o2.elim
    | some μ3 =>
      rw [e] at o2
      unfold aSetD at e
      cases e2 : dctD μ2 dx with
      | none =>
        rw [e2] at e
        obtain ⟨H', q, r1, r2⟩ := seti_ok rl2 p1 p2 rp e
        exact .inl (q _ (o2 _ _ _ _ r2 r1 (((rs.le l1).le l2).le r2)))
      | some nk =>
        obtain ⟨n, kvs⟩ := nk
        rw [e2] at e
        simp only at e
        split at e
        rotate_left
        · cases e
        rename_i hk
        cases e
        rw [Bool.and_eq_true, decide_eq_true_eq] at hk
        obtain ⟨a, rfl, h1, h2, h3⟩ := dctD_ok rl2 p1 e2
        obtain ⟨H', g, z⟩ := dput_ok rl2 h1 h3 p2 rp hk.1 hk.2
        refine .inr ⟨a, H', rfl, by rw [← hK, ← hP, ← hW]; exact g, fun nc => ?_⟩
        obtain ⟨r1, r2⟩ := z (by rw [hP, hW]; exact nc)
        exact o2 _ _ _ _ r2 r1 (((rs.le l1).le l2).le r2))⟩
end
end SC

set_option Elab.async false
set_option linter.all false
set_option maxRecDepth 100000
set_option maxHeartbeats 2000000
namespace SC
open PySem PySem.Spec PyProof.Rows L2
/-! ### methods of dicts -/
def DictV (P : Program) (wd : World) (x : V) (H : Hp) : Prop := ∃ a, x = .ref a ∧ ((∃ ks, H a = some (.dK ks)) ∨ ∃ xs, H a = some (deepO P wd a xs))
section
variable {X : Cx} {pins : List (Addr × Obj)} {σ : L2.St} {H : Hp} {s : Shared}
theorem dictV_is {x : V} {v : Value} (I : Inv X pins σ H s) (r : RelV x v) (h : DictV X.prog X.w x H) : s.TypeIs v "dict" ∧ ∀ a, v = .ref a → ∃ ob, s.heap.get? a = some ob ∧ ob.dict = none := by
  obtain ⟨a, rfl, h⟩ := h
  obtain rfl : v = Value.ref a := r
  rcases h with ⟨ks, h⟩ | ⟨xs, h⟩
  · obtain ⟨_, _, vs, _, dd⟩ := dk_of I.hok h
    refine ⟨dd.typeIs, fun b q => ?_⟩
    cases q
    obtain ⟨ob, _, _, h1, h2, _⟩ := dd
    exact ⟨ob, h1, h2.2.1⟩
  · obtain ⟨⟨vs, r, h1, h2, o, es, ep, e1, e2, _⟩, _⟩ := I.hok a _ h
    refine ⟨⟨o, e1, e2.1⟩, fun b q => ?_⟩
    cases q
    exact ⟨o, e1, e2.2.1⟩
end
section
variable {X : Cx} {T id : String} {name : Str} {r : V → List V → Hp → VK → Prop} {o e : Expr} {es : List Expr} {to : TE} {t : TA} {apos cpos : Pos}
def tBMT (ty : V → Hp → Prop) (r : V → List V → Hp → VK → Prop) (to : TE) (t : TA) : TE := fun σ H Q => to σ H fun x H1 => ty x H1 ∧ t σ H1 fun vs H2 => r x vs H2 Q
theorem pe_bmT {ty : V → Hp → Prop} (is : ∀ (pins : List (Addr × Obj)) (s : Shared) (σ : L2.St) (H : Hp) (x : V) (v : Value), Inv X pins σ H s → RelV x v → ty x H → s.TypeIs v T ∧ ∀ a, v = .ref a → ∃ ob, s.heap.get? a = some ob ∧ ob.dict = none)
    (pa : PlainAttrs T) (slot : Slot T name id) (hty : typeOf (.builtin id) = pure (.type "method_descriptor")) (hm : MtR X id r) (ho : PE X o to) (ha : PA X (e :: es) t)
    (hbase : attributeBase o name X.env (eval o X.env) = eval o X.env)
    (hfew : ((backTo cpos (starEach (e :: es) X.env)).all (fun x => !x.1) && (backToKw cpos (keywordEach [] X.env)).all (fun x => x.1.isSome)
      && decide ((e :: es).length + ([] : List Keyword).length + (if ([] : List Keyword).isEmpty then 0 else 1) < 30)) = true)
    (hline : (apos.endLine == cpos.line) = true) (hs : starEach (e :: es) X.env = (false, eval e X.env) :: starEach es X.env) (hplain : (backTo cpos (starEach es X.env)).any (·.1) = false) :
    PE X (.Call (.Attribute o name apos) (e :: es) [] cpos) (tBMT ty r to t) := by
  refine ⟨fun pins s σ H Q I h => ?_⟩
  refine wpAny_Call_method_late hbase hfew hline rfl (thn (ho.run pins s σ H _ I h) fun v s1 ⟨x, H1, I1, r1, ty, q1⟩ => ?_)
  obtain ⟨h1, h2⟩ := is pins s1 σ H1 x v I1 r1 ty
  refine ⟨T, id, pa, slot, hty, h1, h2, ?_⟩
  have hA := ha.run cpos pins s1 σ H1 _ I1 q1
  rw [hs] at hA ⊢
  refine Calls.callWith_builtin (by show (false || (backTo cpos (starEach es X.env)).any (·.1)) = false; rw [hplain] <;> rfl) (Calls.evalArgs_plain ?_)
  exact thn hA fun us s2 ⟨vs, H2, I2, r2, q2⟩ => hm pins s2 σ H2 x vs v us Q I2 r1 r2 q2
end
/-! get with a default, setdefault -/
def rGet2 (K : PySem.W.Frag) (P : Program) (wd : World) : V → List V → Hp → VK → Prop := fun x xs H Q => ∃ a y z r, x = .ref a ∧ xs = [y, z] ∧ DGetA K P wd H a y r ∧ Q (r.getD z) H
def rSdf (K : PySem.W.Frag) (P : Program) (wd : World) : V → List V → Hp → VK → Prop := fun x xs H Q => ∃ a xs' n b z, x = .ref a ∧ xs = [.ref b, z] ∧ DeepAt K P wd H a xs' ∧ NKV K H n (.ref b) ∧ n.depth ≤ 8 ∧ xs'.length < sizeLine ∧
  (∀ v, valD xs' n = some v → Q v H) ∧ (valD xs' n = none → NoCo P wd (upd H a (deepO P wd a (putD xs' n b z))) a → Q z (upd H a (deepO P wd a (putD xs' n b z))))
section
variable {X : Cx}
theorem mt_get2A (hu : X.A.units + 16 < cLine) : MtR X "dict.get" (rGet2 X.K X.prog X.w) := by
  intro pins s σ H x xs v us Q I rx r h
  obtain ⟨a, y, z, o, rfl, rfl, g, q⟩ := h
  obtain rfl : v = Value.ref a := rx
  obtain ⟨u1, u2, rfl, r1, r2⟩ := r.two
  rcases g with g | ⟨ys, n, b, g, rfl, hk, hd, e⟩
  · exact d_get2 (by omega) I g r1 r2 fun w' s' I' rw' => ⟨_, H, I', rw', q⟩
  · cases (show u1 = Value.ref b from r1)
    obtain ⟨z1, z2, vs, rel, dd⟩ := deep_at I g
    refine call_meetsIn PySem.F.slot_dict_get dd.typeIs PySem.F.entry_dict_get (PySem.F.args_dict_get_3 _ _ _) (meetsH_dict_get_default (nestedKind X.prog X.w) a b z1 u2) ⟨room9 hu, n, vs, nkey_is I hk hd, dd, ⟨_, H, I.tok _, ?_, q⟩⟩
    rw [e]
    exact (rel.val (n := n)).getD r2
theorem mt_sdf (hu : X.A.units + 16 < cLine) : MtR X "dict.setdefault" (rSdf X.K X.prog X.w) := by
  intro pins s σ H x xs v us Q I rx r h
  obtain ⟨a, ys, n, b, z, rfl, rfl, g, hk, hd, hl, q1, q2⟩ := h
  obtain rfl : v = Value.ref a := rx
  obtain ⟨u1, u2, rfl, r1, r2⟩ := r.two
  cases (show u1 = Value.ref b from r1)
  obtain ⟨z1, z2, vs, rel, dd⟩ := deep_at I g
  have rv := rel.val (n := n)
  refine call_setdefault_heap (hsz := by rw [← Paired.length rel]; exact z2) (room9 hu) (nkey_is I hk hd) z1 dd (fun p hp => ?_) fun hp h' dd' hs => ?_
  · rw [hp] at rv
    cases e : valD ys n with
    | none => rw [e] at rv; exact rv.elim
    | some w' => rw [e] at rv; exact ⟨w', H, I.tok _, rv, q1 w' e⟩
  · have e : valD ys n = none := by
      rw [hp] at rv
      cases e : valD ys n with
      | none => rfl
      | some w' => rw [e] at rv; exact rv.elim
    have J := deep_new (tk := s.toks + (nestedKind X.prog X.w).draws n) I g z1 rel hl r2 dd' hs
    exact ⟨z, _, J, r2, q2 e fun xs' e' c => deep_code J e' c⟩
end
section
variable {w : Wo} {X : Cx} {W : WX}
def isDct (μ : Store) (d : AD) : Bool := match dctD μ d with
  | some _ => true
  | none => false
theorem isDct_ok {ρ : List Addr} {B H : Hp} {μ : Store} {x : V} {dx : AD} (rl : Rl w ρ B μ H) (p : Rep w ρ B x dx) (h : isDct μ dx = true) : DictV w.prog w.wd x H := by
  unfold isDct at h
  cases e : dctD μ dx with
  | none => rw [e] at h; cases h
  | some nk =>
    obtain ⟨n, kvs⟩ := nk
    obtain ⟨a, rfl, h1, h2, h3⟩ := dctD_ok rl p e
    rcases h3 with ⟨ks, h3, _⟩ | ⟨xs, h3, _⟩
    · exact ⟨a, rfl, .inl ⟨ks, h3⟩⟩
    · exact ⟨a, rfl, .inr ⟨xs, h3⟩⟩
def mGet : AD → List AD → Store → R AD := fun x ds μ => match ds with
  | [y, z] => (match dctD μ x with
    | some (_, kvs) => chk (keyOk kvs y) (match dLook kvs y with
      | some d => .ok d μ
      | none => .ok z μ)
    | none => .bad)
  | _ => .bad
def mSdf : AD → List AD → Store → R AD := fun x ds μ => match ds with
  | [y, z] => (match dctD μ x with
    | some (n, kvs) => chk (isTK y && keyOk kvs y && decide (kvs.length < sizeLine)) (match dLook kvs y with
      | some d => .ok d μ
      | none => .ok z (μ.set n (.dct (dPut kvs y z))))
    | none => .bad)
  | _ => .bad
theorem get2_r {W : Value → Option Addr → Hp → Prop} {x : V} {dx : AD} {xs : List V} {ds : List AD} {ρ : List Addr} {B H : Hp} {μ : Store} {Q : VK} (rl : Rl w ρ B μ H) (px : Rep w ρ B x dx) (p : Reps w ρ B xs ds) (o : Out w W (PV w) ρ B H (mGet dx ds μ) Q) : rGet2 w.K w.prog w.wd x xs H Q := by
  unfold mGet at o
  match ds, o, p with
  | [], o, _ => exact o.elim
  | [_], o, _ => exact o.elim
  | _ :: _ :: _ :: _, o, _ => exact o.elim
  | [y, z], o, p =>
    cases p with
    | cons py p =>
      cases p with
      | cons pz p =>
        cases p
        simp only at o
        cases e : dctD μ dx with
        | none => rw [e] at o; exact o.elim
        | some nk =>
          obtain ⟨n, kvs⟩ := nk
          rw [e] at o
          obtain ⟨hk, o⟩ := chk_out o
          obtain ⟨a, rfl, h1, h2, h3⟩ := dctD_ok rl px e
          obtain ⟨r, g, q⟩ := dget_ok rl h3 py hk
          refine ⟨a, _, _, r, rfl, rfl, g, ?_⟩
          cases e2 : dLook kvs y with
          | none =>
            rw [e2] at o q
            cases r with
            | none => exact out_now rl pz o
            | some _ => exact q.elim
          | some d =>
            rw [e2] at o q
            cases r with
            | none => exact q.elim
            | some v => exact out_now rl q o
theorem sdf_r {W : Value → Option Addr → Hp → Prop} {x : V} {dx : AD} {xs : List V} {ds : List AD} {ρ : List Addr} {B H : Hp} {μ : Store} {Q : VK} (rl : Rl w ρ B μ H) (px : Rep w ρ B x dx) (p : Reps w ρ B xs ds) (o : Out w W (PV w) ρ B H (mSdf dx ds μ) Q) : rSdf w.K w.prog w.wd x xs H Q := by
  unfold mSdf at o
  match ds, o, p with
  | [], o, _ => exact o.elim
  | [_], o, _ => exact o.elim
  | _ :: _ :: _ :: _, o, _ => exact o.elim
  | [y, z], o, p =>
    cases p with
    | cons py p =>
      cases p with
      | cons pz p =>
        cases p
        simp only at o
        cases e : dctD μ dx with
        | none => rw [e] at o; exact o.elim
        | some nk =>
          obtain ⟨n, kvs⟩ := nk
          rw [e] at o
          obtain ⟨hk, o⟩ := chk_out o
          rw [Bool.and_eq_true, Bool.and_eq_true, decide_eq_true_eq] at hk
          obtain ⟨a, rfl, h1, h2, h3⟩ := dctD_ok rl px e
          obtain ⟨hy, b, rfl, k1, k2⟩ := tup_key rl.ex hk.1.1 py
          have fin : ∀ xs', DeepAt w.K w.prog w.wd H a xs' → DReps w ρ B xs' kvs → rSdf w.K w.prog w.wd (.ref a) [.ref b, _] H Q := fun xs' g hd => by
            have look := hd.look hy
            refine ⟨a, xs', _, b, _, rfl, rfl, g, k1, k2, by rw [hd.len]; exact hk.2, fun v ev => ?_, fun ev nc => ?_⟩
            · rw [ev] at look
              cases e2 : dLook kvs y with
              | none => rw [e2] at look; exact look.elim
              | some d => rw [e2] at o look; exact out_now rl look o
            · rw [ev] at look
              cases e2 : dLook kvs y with
              | some d => rw [e2] at look; exact look.elim
              | none =>
                rw [e2] at o
                obtain ⟨r1, r2⟩ := rl.write (ao := .dct (dPut kvs y z)) h1 (.inr ⟨_, upd_same, hd.put hy py pz, putD_ne _, nc _ upd_same⟩)
                exact o _ _ _ _ r2 r1 pz
          rcases h3 with ⟨ks, g1, g2⟩ | ⟨xs', g1, g2, g3, g4⟩
          · obtain ⟨rfl, rfl⟩ := dct_flat g2 hk.1.2 hk.1.1
            exact fin [] (.inr ⟨rfl, g1⟩) trivial
          · exact fin xs' (.inl ⟨g1, g2.keys rl.ex⟩) g2
theorem r_dm {id : String} {name : Str} {r : V → List V → Hp → VK → Prop} {g : AD → List AD → Store → R AD} {o e : Expr} {es : List Expr} {fo : SE} {fa : SA} {apos cpos : Pos} (hg : ∀ (W : Value → Option Addr → Hp → Prop) x dx xs ds ρ B H μ Q, Rl w ρ B μ H → Rep w ρ B x dx → Reps w ρ B xs ds → Out w W (PV w) ρ B H (g dx ds μ) Q → r x xs H Q)
    (slot : Slot "dict" name id) (hty : typeOf (.builtin id) = pure (.type "method_descriptor")) (hm : MtR X id r) (ho : PE X o (lift w W fo)) (ha : PA X (e :: es) (liftA w W fa)) (hP : w.prog = X.prog) (hW : w.wd = X.w)
    (hbase : attributeBase o name X.env (eval o X.env) = eval o X.env)
    (hfew : ((backTo cpos (starEach (e :: es) X.env)).all (fun x => !x.1) && (backToKw cpos (keywordEach [] X.env)).all (fun x => x.1.isSome)
      && decide ((e :: es).length + ([] : List Keyword).length + (if ([] : List Keyword).isEmpty then 0 else 1) < 30)) = true)
    (hline : (apos.endLine == cpos.line) = true) (hs : starEach (e :: es) X.env = (false, eval e X.env) :: starEach es X.env) (hplain : (backTo cpos (starEach es X.env)).any (·.1) = false) :
    PE X (.Call (.Attribute o name apos) (e :: es) [] cpos) (lift w W (eBm (fun d μ => isDct μ d) g fo fa)) :=
  PE_imp (pe_bmT (ty := DictV X.prog X.w) (fun pins s σ H x v I r h => dictV_is I r h) PySem.F.plainAttrs_dict slot hty hm ho ha hbase hfew hline hs hplain) fun σ H Q ⟨ρ, B, s, μ, rl, rs, o⟩ =>
    lift_one (R' := fun x H1 => DictV X.prog X.w x H1 ∧ liftA w W fa σ H1 fun xs H2 => r x xs H2 Q) rl rs o fun x dx ρ2 B2 H2 μ2 _ rl2 rs2 p o2 => by
      obtain ⟨hc, o2⟩ := chk_out o2
      refine ⟨by rw [← hP, ← hW]; exact isDct_ok rl2 p hc, liftA_k rl2 rs2 o2 fun xs ds ρ3 B3 H3 μ3 l3 rl3 rs3 q o3 => ?_⟩
      exact hg _ x dx xs ds ρ3 B3 H3 μ3 Q rl3 (p.mono l3.ex l3.pre) q o3
theorem r_dget2 {o a b : Expr} {fo : SE} {fa : SA} {apos cpos : Pos} (hu : X.A.units + 16 < cLine) (ho : PE X o (lift w W fo)) (ha : PA X [a, b] (liftA w W fa)) (hK : w.K = X.K := by rfl) (hP : w.prog = X.prog := by rfl) (hW : w.wd = X.w := by rfl)
    (hbase : attributeBase o "get" X.env (eval o X.env) = eval o X.env := by rfl)
    (hfew : ((backTo cpos (starEach [a, b] X.env)).all (fun x => !x.1) && (backToKw cpos (keywordEach [] X.env)).all (fun x => x.1.isSome)
      && decide ([a, b].length + ([] : List Keyword).length + (if ([] : List Keyword).isEmpty then 0 else 1) < 30)) = true := by rfl)
    (hline : (apos.endLine == cpos.line) = true := by rfl) (hs : starEach [a, b] X.env = (false, eval a X.env) :: starEach [b] X.env := by rfl) (hplain : (backTo cpos (starEach [b] X.env)).any (·.1) = false := by rfl) :
    PE X (.Call (.Attribute o "get" apos) [a, b] [] cpos) (lift w W (eBm (fun d μ => isDct μ d) mGet fo fa)) :=
  r_dm (fun W x dx xs ds ρ B H μ Q rl px p o => by have := get2_r rl px p o; rw [hK, hP, hW] at this; exact this) PySem.F.slot_dict_get PySem.F.type_dict_get (mt_get2A hu) ho ha hP hW hbase hfew hline hs hplain
theorem r_dsdf {o a b : Expr} {fo : SE} {fa : SA} {apos cpos : Pos} (hu : X.A.units + 16 < cLine) (ho : PE X o (lift w W fo)) (ha : PA X [a, b] (liftA w W fa)) (hK : w.K = X.K := by rfl) (hP : w.prog = X.prog := by rfl) (hW : w.wd = X.w := by rfl)
    (hbase : attributeBase o "setdefault" X.env (eval o X.env) = eval o X.env := by rfl)
    (hfew : ((backTo cpos (starEach [a, b] X.env)).all (fun x => !x.1) && (backToKw cpos (keywordEach [] X.env)).all (fun x => x.1.isSome)
      && decide ([a, b].length + ([] : List Keyword).length + (if ([] : List Keyword).isEmpty then 0 else 1) < 30)) = true := by rfl)
    (hline : (apos.endLine == cpos.line) = true := by rfl) (hs : starEach [a, b] X.env = (false, eval a X.env) :: starEach [b] X.env := by rfl) (hplain : (backTo cpos (starEach [b] X.env)).any (·.1) = false := by rfl) :
    PE X (.Call (.Attribute o "setdefault" apos) [a, b] [] cpos) (lift w W (eBm (fun d μ => isDct μ d) mSdf fo fa)) :=
  r_dm (fun W x dx xs ds ρ B H μ Q rl px p o => by have := sdf_r rl px p o; rw [hK, hP, hW] at this; exact this) PySem.F.slot_dict_setdefault PySem.F.type_dict_setdefault (mt_sdf hu) ho ha hP hW hbase hfew hline hs hplain
end
end SC

set_option Elab.async false
set_option linter.all false
set_option maxRecDepth 100000
set_option maxHeartbeats 2000000
namespace SC
open PySem PySem.Spec PyProof.Rows L2
/-! ### the order of pairs -/
abbrev PK := List (Int ⊕ List Nat)
abbrev OP : KeyOrd := listOrd itemOrd
def ltS : Int ⊕ List Nat → Int ⊕ List Nat → Bool
  | .inl i, .inl j => decide (i < j)
  | .inl _, .inr _ => true
  | .inr _, .inl _ => false
  | .inr a, .inr b => ltL a b
theorem ltS_eq (a b : Int ⊕ List Nat) : ltS a b = itemOrd.blt a b := by
  cases a <;> cases b
  · rfl
  · rfl
  · rfl
  · show ltL _ _ = strKind.blt _ _
    rw [Bool.eq_iff_iff, ltL_iff]
    show _ ↔ decide (_ < _) = true
    rw [decide_eq_true_eq]
def itA : AD → Int ⊕ List Nat
  | .int i => .inl i
  | .str x => .inr (sL x)
  | _ => .inl 0
def itsP (p : AD × AD) : PK := [itA p.1, itA p.2]
def ltP (p q : AD × AD) : Bool := ltS (itA p.1) (itA q.1) || (!ltS (itA q.1) (itA p.1) && ltS (itA p.2) (itA q.2))
theorem ltP_eq (p q : AD × AD) : ltP p q = OP.blt (itsP p) (itsP q) := by
  show ltP p q = lexLt itemOrd [itA p.1, itA p.2] [itA q.1, itA q.2]
  unfold ltP
  rw [lex_cons, lex_cons, ltS_eq, ltS_eq, ltS_eq]
  have : lexLt itemOrd [] [] = false := rfl
  rw [this, Bool.and_false, Bool.or_false]
def insP (x : AD × AD) : List (AD × AD) → List (AD × AD)
  | [] => [x]
  | y :: r => if ltP y x then y :: insP x r else x :: y :: r
def sortP : List (AD × AD) → List (AD × AD)
  | [] => []
  | x :: r => insP x (sortP r)
abbrev leP (p q : AD × AD) : Prop := OP.kle (itsP p) (itsP q)
theorem insP_perm (x : AD × AD) : ∀ l, (insP x l).Perm (x :: l)
  | [] => .refl _
  | y :: r => by
    unfold insP
    split
    · exact ((insP_perm x r).cons y).trans (.swap ..)
    · exact .refl _
theorem sortP_perm : ∀ l, (sortP l).Perm l
  | [] => .refl _
  | x :: r => (insP_perm x (sortP r)).trans ((sortP_perm r).cons x)
theorem insP_pw (x : AD × AD) : ∀ l, l.Pairwise leP → (insP x l).Pairwise leP
  | [], _ => by simp [insP]
  | y :: r, h => by
    unfold insP
    rw [List.pairwise_cons] at h
    split
    · rename_i hl
      rw [ltP_eq] at hl
      rw [List.pairwise_cons]
      refine ⟨fun z hz => ?_, insP_pw x r h.2⟩
      rcases List.mem_cons.mp ((insP_perm x r).mem_iff.mp hz) with rfl | hz
      · exact KeyOrd.kle_of_klt hl
      · exact h.1 z hz
    · rename_i hl
      have hxy : leP x y := by
        rw [ltP_eq] at hl
        exact KeyOrd.kle_of_not_klt hl
      rw [List.pairwise_cons, List.pairwise_cons]
      refine ⟨fun z hz => ?_, h⟩
      rcases List.mem_cons.mp hz with rfl | hz
      · exact hxy
      · exact KeyOrd.kle_trans hxy (h.1 z hz)
theorem sortP_pw : ∀ l, (sortP l).Pairwise leP
  | [] => .nil
  | x :: r => insP_pw x _ (sortP_pw r)
def flP (p : AD × AD) : Bool := isFK p.1 && isFK p.2
theorem itA_inj {a b : AD} (ha : isFK a = true) (hb : isFK b = true) (h : itA a = itA b) : a = b := by
  cases a <;> first | (exact Bool.noConfusion ha) | skip
  all_goals (cases b <;> first | (exact Bool.noConfusion hb) | skip)
  · exact congrArg AD.int (Sum.inl.inj h)
  · cases h
  · cases h
  · exact congrArg AD.str (sL_inj (Sum.inr.inj h))
theorem sortP_uniq {ys xs : List (AD × AD)} (hf : xs.all flP = true) (hp : ys.Perm xs) (hs : ys.Pairwise leP) : ys = sortP xs := by
  refine (hp.trans (sortP_perm xs).symm).eq_of_pairwise (fun a b ha hb h1 h2 => ?_) hs (sortP_pw xs)
  rw [List.all_eq_true] at hf
  have fa := hf a (hp.mem_iff.mp ha)
  have fb := hf b ((sortP_perm xs).mem_iff.mp hb)
  unfold flP at fa fb
  rw [Bool.and_eq_true] at fa fb
  have e : itsP a = itsP b := OP.total _ _ h2 h1
  unfold itsP at e
  injection e with e1 e2
  injection e2 with e2 _
  exact Prod.ext (itA_inj fa.1 fb.1 e1) (itA_inj fa.2 fb.2 e2)
/-! ### pairs laid -/
abbrev PZ := Addr × Key × Int
def tupZ (z : PZ) : HO := .tup [kV z.2.1, .int z.2.2]
def layP (H : Hp) : List PZ → Hp
  | [] => H
  | z :: r => layP (upd H z.1 (tupZ z)) r
theorem layP_ne : ∀ (L : List PZ) (H : Hp) (a : Addr), a ∉ L.map (·.1) → layP H L a = H a
  | [], H, a, _ => rfl
  | z :: r, H, a, h => by
    rw [List.map_cons, List.mem_cons, not_or] at h
    unfold layP
    rw [layP_ne r _ a h.2, upd_ne h.1]
theorem takeP {X : Cx} {pins : List (Addr × Obj)} {σ : L2.St} {H0 : Hp} {s : Shared} {h' : Heap} {tk : Nat} (I0 : Inv X pins σ H0 s) : ∀ (L : List PZ) (H1 : Hp), Inv X pins σ H1 { s with heap := h', toks := tk } → (L.map (·.1)).Nodup →
    (∀ z ∈ L, s.heap.objs.size ≤ z.1 ∧ H1 z.1 = none ∧ ∀ H2, ObjOk X.prog X.w H2 h' z.1 (tupZ z)) → Inv X pins σ (layP H1 L) { s with heap := h', toks := tk }
  | [], H1, I1, _, _ => I1
  | z :: L, H1, I1, hn, h => by
    obtain ⟨hb, hnone, ok⟩ := h z (List.mem_cons_self ..)
    have I2 : Inv X pins σ (upd H1 z.1 (tupZ z)) { s with heap := h', toks := tk } := I1.take (h' := h') (t' := tk) (fun b ob _ e => e) (I0.fpOk hb hnone) (ok _)
    rw [List.map_cons, List.nodup_cons] at hn
    exact takeP I0 L _ I2 hn.2 fun c hc => by
      obtain ⟨c1, c2, c3⟩ := h c (List.mem_cons_of_mem _ hc)
      exact ⟨c1, by rw [upd_ne (fun q => hn.1 (by rw [← q]; exact List.mem_map.mpr ⟨c, hc, rfl⟩))]; exact c2, c3⟩
section
variable {w : Wo}
def adZ (z : PZ) : AD := .tup [keyAD z.2.1, .int z.2.2]
theorem rep_kV {ρ : List Addr} {B : Hp} (k : Key) : Rep w ρ B (kV k) (keyAD k) := by cases k <;> constructor
theorem known_pairs : ∀ (L : List PZ) {ρ : List Addr} {B H : Hp} {μ : Store}, Rl w ρ B μ H → (L.map (·.1)).Nodup → (∀ z ∈ L, H z.1 = none) →
    Rl w ρ (layP B L) μ (layP H L) ∧ Le ρ B H ρ (layP B L) (layP H L) ∧ Reps w ρ (layP B L) (L.map fun z => V.ref z.1) (L.map adZ)
  | [], ρ, B, H, μ, rl, _, _ => ⟨rl, Le.rfl' rl, .nil⟩
  | z :: L, ρ, B, H, μ, rl, hn, h => by
    obtain ⟨k1, k2⟩ := rl.known (o := tupZ z) (h z (List.mem_cons_self ..))
    rw [List.map_cons, List.nodup_cons] at hn
    obtain ⟨r1, r2, r3⟩ := known_pairs L k1 hn.2 fun c hc => by
      rw [upd_ne (fun q => hn.1 (by rw [← q]; exact List.mem_map.mpr ⟨c, hc, rfl⟩))]
      exact h c (List.mem_cons_of_mem _ hc)
    refine ⟨r1, k2.trans r2, .cons ?_ r3⟩
    have q : layP B (z :: L) z.1 = some (tupZ z) := by
      show layP (upd B z.1 (tupZ z)) L z.1 = _
      rw [layP_ne L _ _ hn.1, upd_same]
    exact .tup (.inl (.inl q)) (.cons (rep_kV _) (.cons (.int _) .nil))
end
end SC

set_option Elab.async false
set_option linter.all false
set_option maxRecDepth 100000
set_option maxHeartbeats 2000000
namespace SC
open PySem PySem.Spec PyProof.Rows L2 L2.DX
def entK (e : Key × Int) : Key × V := (e.1, .int e.2)
def rItemsK : V → List V → Hp → VK → Prop := fun x xs H Q => ∃ (a : Addr) (kvs : List (Key × V)), x = .ref a ∧ xs = [] ∧ H a = some (.dK kvs) ∧ ∀ p, H p = none → Q (.ref p) (upd H p (itemsO p a))
section
variable {X : Cx}
theorem mt_itemsK : MtR X "dict.items" rItemsK := by
  intro pins s σ H x xs v us Q I rx rxs h
  obtain ⟨a, kvs, rfl, rfl, ha, q⟩ := h
  cases rx
  cases rxs
  obtain ⟨z, hd, xs', rel, o, es, ep, ho, hx, hdat, _⟩ := dk_of I.hok ha
  refine DT.callItems (es := es) (ep := ep) hd ⟨o, ho, hx, hdat⟩ ?_
  have hf : H s.heap.objs.size = none := I.hok.fresh (Nat.le_refl _)
  exact ⟨.ref s.heap.objs.size, upd H s.heap.objs.size (itemsO s.heap.objs.size a), I.laid (t' := s.toks) (fun b u e => Heap.get?_push_of_some _ e) (Nat.le_refl _) (itemsO_ok (Heap.get?_push_size _ rfl)), rfl, q _ hf⟩
def itK (e : Key × Int) : PK := [match e.1 with | .inl i => .inl i | .inr x => .inr x.cps.toList, .inl e.2]
def shK (sh : Bool) : Key → Bool
  | .inl _ => !sh
  | .inr _ => sh
def rSortK : List V → Hp → VK → Prop := fun vs H Q => ∃ (p a : Addr) (kn : List (Key × Int)) (sh : Bool), vs = [.ref p] ∧ H p = some (itemsO p a) ∧ H a = some (.dK (kn.map entK)) ∧ (kn.all fun e => shK sh e.1) = true ∧
  ∀ (zs : List PZ) (l : Addr), (zs.map (·.2)).Perm kn → (zs.map (·.2)).Pairwise (fun e f => OP.kle (itK e) (itK f)) → (zs.map (·.1)).Nodup → (∀ z ∈ zs, H z.1 = none) → l ∉ zs.map (·.1) → H l = none → Q (.ref l) (upd (layP H zs) l (.lst (zs.map fun z => V.ref z.1)))
theorem tups_ex {h : Heap} {shape : Nat → Bool} : ∀ (l : List Addr), (∀ b ∈ l, ∃ f, TupOf h shape (.ref b) f) → ∃ fs, TupsOf h shape (l.map Value.ref) fs
  | [], _ => ⟨[], .nil⟩
  | b :: l, hb => by
    obtain ⟨f, hf⟩ := hb b (List.mem_cons_self ..)
    obtain ⟨fs, hfs⟩ := tups_ex l fun c hc => hb c (List.mem_cons_of_mem _ hc)
    exact ⟨f :: fs, .cons hf hfs⟩
theorem cr_sortK (hc : X.calm = true) : CallR X (.builtin "sorted") rSortK := by
  intro pins s σ H xs us Q I r h
  obtain ⟨p, a, kn, sh, rfl, hp, ha, hsh, q⟩ := h
  obtain rfl := Vals.ref1 r
  have view : s.heap.IsItemsView p a := (show ObjOk X.prog X.w H s.heap p (itemsO p a) from I.hok p _ hp).1
  obtain ⟨z, hd, vs, rel, o, es, ep, ho, hx, hdat, hkeys, hprs, hn⟩ := dk_of I.hok ha
  have l1 : (kn.map entK).length = vs.length := Paired.length rel
  rw [List.length_map] at l1
  have l2 : es.toList.length = vs.length := hprs.length
  rw [Array.length_toList] at l2
  rw [List.length_map] at z
  have hh : X.A.handled = none := I.ok.hd hc
  refine DT.sortedI (es := es) (ep := ep) hh view ⟨o, ho, hx, hdat⟩ (by omega) fun h' tk as hk hlt hl hG => ?_
  have lak : as.length = kn.length := by omega
  have nd : as.Nodup := List.Pairwise.imp (fun h => Nat.ne_of_lt h) hG.rise
  have pr : ∀ (j : Nat) (b : Addr), as[j]? = some b → ∃ (e : Key × Int) (ku vu : Value), kn[j]? = some e ∧ RelV (kV e.1) ku ∧ RelV (.int e.2) vu ∧ h'.get? b = some { cls := .type "tuple", data := .seq #[ku, vu] } := by
    intro j b hj
    obtain ⟨en, he, hg⟩ := hG.pairs j b hj
    rw [← Array.getElem?_toList] at he
    obtain ⟨kv, h1, h2, h3⟩ : ∃ kv, vs[j]? = some kv ∧ (mixKind X.prog X.w).is kv.1 en.key = true ∧ en.val = kv.2 := by
      have key : ∀ (l : List DictEntry) (m : List (Key × Value)) (j : Nat) (en : DictEntry), Pairs (mixKind X.prog X.w) l m → l[j]? = some en → ∃ kv, m[j]? = some kv ∧ (mixKind X.prog X.w).is kv.1 en.key = true ∧ en.val = kv.2 := by
        intro l
        induction l with
        | nil => intro m j en _ h; simp at h
        | cons x l ih =>
          intro m j en h hj
          cases m with
          | nil => cases h
          | cons y m =>
            cases h with
            | cons g1 g2 g3 =>
              cases j with
              | zero => cases hj; exact ⟨y, rfl, g1, g2⟩
              | succ j => exact ih m j en g3 (by simpa using hj)
      exact key _ _ j en hprs he
    obtain ⟨e0, he0, r1, r2⟩ := pget rel h1
    rw [List.getElem?_map] at he0
    cases hkj : kn[j]? with
    | none => rw [hkj] at he0; exact nomatch (show (none : Option (Key × V)) = some e0 from he0)
    | some e =>
      rw [hkj] at he0
      have ee : entK e = e0 := Option.some.inj he0
      subst ee
      refine ⟨e, en.key, en.val, rfl, ?_, by rw [h3]; exact r2, hg⟩
      have r1 : e.1 = kv.1 := r1
      rw [← r1] at h2
      rcases keyIs_shape h2 with ⟨i, t, e1, e2⟩ | ⟨x, t, e1, e2⟩
      · rw [e1, e2]; exact ⟨t, rfl⟩
      · rw [e1, e2]; exact ⟨t, rfl⟩
  have hob : (h'.push { cls := .type "list", data := .seq (as.map Value.ref).toArray }).get? h'.objs.size = some (seqObj "list" (as.map Value.ref).toArray 0) := Heap.get?_push_size _ rfl
  have kb : ∀ b o, s.heap.get? b = some o → (h'.push { cls := .type "list", data := .seq (as.map Value.ref).toArray }).get? b = some o := fun b o e => Heap.get?_push_of_some _ (hk b o e)
  have ne0 : ∀ b o, h'.get? b = some o → b ≠ h'.objs.size := fun b o e => Nat.ne_of_lt (Heap.lt_size e)
  generalize hh2 : h'.push { cls := .type "list", data := .seq (as.map Value.ref).toArray } = h2 at hob kb ⊢
  have ka : ∀ b o, h'.get? b = some o → h2.get? b = some o := fun b o e => by rw [← hh2]; exact Heap.get?_push_of_some _ e
  have shp : ∀ e ∈ kn, shK sh e.1 = true := fun e he => by rw [List.all_eq_true] at hsh; exact hsh e he
  have keyOf : ∀ (j : Nat) (b : Addr) (e : Key × Int), as[j]? = some b → kn[j]? = some e → (∃ f, TupOf h2 (fun i => decide (i = 0) && sh) (.ref b) f) ∧ G.tupKeyC h2 (fun i => decide (i = 0) && sh) (.ref b) = some (itK e) := by
    intro j b e hj he
    obtain ⟨e', ku, vu, he', rk, rv, hg⟩ := pr j b hj
    obtain rfl : e' = e := Option.some.inj (he'.symm.trans he)
    have hg2 := ka _ _ hg
    have hs := shp e' (List.mem_of_getElem? he)
    obtain ⟨tv, rfl⟩ := rv
    obtain ⟨ek, en⟩ := e'
    cases ek with
    | inl i =>
      obtain ⟨t, rfl⟩ := rk
      have hs : sh = false := by simpa [shK] using hs
      subst hs
      refine ⟨⟨.int i t, b, _, _, _, rfl, hg2, rfl, rfl, rfl, fun _ => ⟨i, t, rfl⟩, fun z => by simp at z⟩, ?_⟩
      simp [G.tupKeyC, G.isTupObj, tupKey, hg2, tupItems, itK]
    | inr x =>
      obtain ⟨t, rfl⟩ := rk
      have hs : sh = true := by simpa [shK] using hs
      subst hs
      refine ⟨⟨.str x t, b, _, _, _, rfl, hg2, rfl, rfl, rfl, fun z => by simp at z, fun _ => ⟨x, t, rfl⟩⟩, ?_⟩
      simp [G.tupKeyC, G.isTupObj, tupKey, hg2, tupItems, itK]
  have at_ : ∀ b ∈ as, ∃ (j : Nat) (e : Key × Int), as[j]? = some b ∧ kn[j]? = some e := by
    intro b hb
    obtain ⟨j, hj⟩ := List.mem_iff_getElem?.mp hb
    obtain ⟨e, _, _, he, _⟩ := pr j b hj
    exact ⟨j, e, hj, he⟩
  obtain ⟨fs, hfs⟩ := tups_ex (h := h2) (shape := fun i => decide (i = 0) && sh) as fun b hb => by
    obtain ⟨j, e, hj, he⟩ := at_ b hb
    exact (keyOf j b e hj he).1
  refine wpAny_call_entry PyProof.Rows.slot_list_sort ⟨_, hob, rfl⟩ PyProof.Rows.entry_list_sort
    (G.list_sort_tups (s := { s with heap := h2, toks := tk }) (shape := fun i => decide (i = 0) && sh) hob hfs (fun v hv => ?_) (by rw [List.length_map]; omega) fun st' o2 o3 _ => ⟨.none, rfl, ?_⟩) (PyProof.Rows.args_list_sort _)
  · obtain ⟨b, hb, rfl⟩ := List.mem_map.mp hv
    obtain ⟨j, e, hj, he⟩ := at_ b hb
    exact ⟨_, (keyOf j b e hj he).2⟩
  · show EP X pins σ Q (.ref h'.objs.size) { s with heap := sortedHeap h2 h'.objs.size (as.map Value.ref) ((arrOf st').map (·.2)), toks := tk }
    generalize hO : (arrOf st').map (·.2) = out
    have o2l : (arrOf st').toList.Perm ((as.map Value.ref).zip (as.map Value.ref)) := by
      have := o2.toList
      rw [pairsOf_toList] at this
      exact this
    obtain ⟨zs, pz, ez⟩ := perm_lift (fun z : PZ => (Value.ref z.1, Value.ref z.1)) o2l (as.zip kn) (zip_self Value.ref as kn lak)
    have idx : ∀ z ∈ zs, ∃ j : Nat, as[j]? = some z.1 ∧ kn[j]? = some z.2 := by
      intro z' hz'
      obtain ⟨j, hj⟩ := List.mem_iff_getElem?.mp (pz.mem_iff.mp hz')
      exact ⟨j, List.getElem?_zip_eq_some.mp hj⟩
    have hout : out.toList = zs.map fun z => Value.ref z.1 := by
      rw [← hO, Array.toList_map, ← ez, List.map_map]
      rfl
    have hperm : (zs.map (·.2)).Perm kn := by
      have e := pz.map (·.2)
      have m2 : (as.zip kn).map (·.2) = kn := List.map_snd_zip (by rw [lak]; exact Nat.le_refl _)
      rw [m2] at e
      exact e
    have hnd : (zs.map (·.1)).Nodup := by
      have e := pz.map (·.1)
      have m2 : (as.zip kn).map (·.1) = as := List.map_fst_zip (by rw [lak]; exact Nat.le_refl _)
      rw [m2] at e
      exact e.nodup_iff.mpr nd
    have hsort : (zs.map (·.2)).Pairwise (fun e f => OP.kle (itK e) (itK f)) := by
      have hsz : (pairsOf (as.map Value.ref)).size = (arrOf st').size := o2.size_eq.symm
      rw [hsz] at o3
      have o3 := sm_pw_of_sorted o3
      rw [← ez, List.pairwise_map] at o3
      rw [List.pairwise_map]
      refine List.Pairwise.imp_of_mem (fun {x y} hx hy h => ?_) o3
      obtain ⟨j, j1, j2⟩ := idx x hx
      obtain ⟨i, i1, i2⟩ := idx y hy
      have k1 := (keyOf j _ _ j1 j2).2
      have k2 := (keyOf i _ _ i1 i2).2
      have h : (listOrd itemOrd).kle (((G.tupKeyC h2 (fun i => decide (i = 0) && sh) (.ref x.1))).getD []) (((G.tupKeyC h2 (fun i => decide (i = 0) && sh) (.ref y.1))).getD []) := h
      rw [k1, k2] at h
      exact h
    have kF : ∀ b o, b ≠ h'.objs.size → h2.get? b = some o → (sortedHeap h2 h'.objs.size (as.map Value.ref) out).get? b = some o := fun b o hb e => (PyProof.Rows.sortedHeap_old hb (Heap.lt_size e)).trans e
    have kS : ∀ b o, s.heap.get? b = some o → (sortedHeap h2 h'.objs.size (as.map Value.ref) out).get? b = some o := fun b o e => kF b o (ne0 _ _ (hk b o e)) (kb b o e)
    obtain ⟨eF, heF⟩ := PyProof.Rows.sortedHeap_at (vs := as.map Value.ref) (out := out) hob
    have I1 : Inv X pins σ H { s with heap := sortedHeap h2 h'.objs.size (as.map Value.ref) out, toks := tk } := I.kept (t' := tk) kS
    have memA : ∀ z' ∈ zs, z'.1 ∈ as := fun z' hz' => by obtain ⟨j, j1, _⟩ := idx z' hz'; exact List.mem_of_getElem? j1
    have big : ∀ b ∈ as, s.heap.objs.size ≤ b := fun b hb => Nat.le_of_lt (hG.above b hb)
    have I2 := takeP (h' := sortedHeap h2 h'.objs.size (as.map Value.ref) out) (tk := tk) I zs H I1 hnd fun z' hz' => by
      obtain ⟨j, j1, j2⟩ := idx z' hz'
      obtain ⟨e, ku, vu, he, rk, rv, hg⟩ := pr j _ j1
      obtain rfl : e = z'.2 := Option.some.inj (he.symm.trans j2)
      exact ⟨big _ (memA z' hz'), I.hok.fresh (big _ (memA z' hz')), fun H2 => ⟨(by rw [sizeLine_eq]; show 2 ≤ 16777216; omega), [ku, vu], .cons rk (.cons rv .nil), ⟨_, kF _ _ (ne0 _ _ hg) (ka _ _ hg), rfl, 0, rfl⟩⟩⟩
    have nl : h'.objs.size ∉ zs.map (·.1) := fun hm => by
      obtain ⟨z', hz', ez'⟩ := List.mem_map.mp hm
      obtain ⟨j, j1, j2⟩ := idx z' hz'
      obtain ⟨e, ku, vu, he, rk, rv, hg⟩ := pr j _ j1
      exact ne0 _ _ hg ez'
    have hn0 : H h'.objs.size = none := I.hok.fresh (Nat.le_of_lt hlt)
    have hn1 : layP H zs h'.objs.size = none := by rw [layP_ne zs H _ nl]; exact hn0
    have hlen : (zs.map fun z => V.ref z.1).length ≤ sizeLine := by
      have e := hperm.length_eq
      rw [List.length_map] at e
      rw [List.length_map]
      omega
    have rv : Vals (zs.map fun z => V.ref z.1) out.toList := by
      rw [hout]
      exact vals_maps (fun z : PZ => V.ref z.1) (fun z => Value.ref z.1) zs fun _ _ => rfl
    have I3 : Inv X pins σ (upd (layP H zs) h'.objs.size (.lst (zs.map fun z => V.ref z.1))) { s with heap := sortedHeap h2 h'.objs.size (as.map Value.ref) out, toks := tk } :=
      I2.take (o := .lst (zs.map fun z => V.ref z.1)) (h' := sortedHeap h2 h'.objs.size (as.map Value.ref) out) (t' := tk) (fun b ob _ e => e) (I.fpOk (Nat.le_of_lt hlt) hn1) ⟨hlen, _, eF, rv, heF⟩
    exact ⟨.ref h'.objs.size, _, I3, rfl, q zs h'.objs.size hperm hsort hnd (fun z' hz' => I.hok.fresh (big _ (memA z' hz'))) nl hn0⟩
end
end SC

set_option Elab.async false
set_option linter.all false
set_option maxRecDepth 100000
set_option maxHeartbeats 2000000
namespace SC
open PySem PySem.Spec PyProof.Rows L2 L2.DX
def isI : AD → Bool
  | .int _ => true
  | _ => false
def isS : AD → Bool
  | .str _ => true
  | _ => false
def shP (kvs : List (AD × AD)) : Bool := (kvs.all fun p => isS p.1 && isI p.2) || (kvs.all fun p => isI p.1 && isI p.2)
def eSortIt (fo : SE) : SE := fun s μ => (fo s μ).bind fun x μ1 => match dctD μ1 x with
  | some (_, kvs) => chk (shP kvs) (.ok (.ref μ1.length) (μ1 ++ [.lst ((sortP kvs).map fun p => .tup [p.1, p.2])]))
  | none => .bad
def adK (e : Key × Int) : AD × AD := (keyAD e.1, .int e.2)
section
variable {w : Wo} {X : Cx} {W : WX}
theorem flat_pairs {ρ : List Addr} {B : Hp} {sh : Bool} : ∀ {ks : List (Key × V)} {kvs : List (AD × AD)}, KReps w ρ B ks kvs → (kvs.all fun p => (if sh then isS p.1 else isI p.1) && isI p.2) = true → ∃ kn : List (Key × Int), ks = kn.map entK ∧ kvs = kn.map adK ∧ (kn.all fun e => shK sh e.1) = true
  | [], [], _, _ => ⟨[], rfl, rfl, rfl⟩
  | [], _ :: _, h, _ => h.elim
  | _ :: _, [], h, _ => h.elim
  | (k, v) :: r, (a, d) :: s, ⟨h1, h2, h3⟩, z => by
    subst h1
    rw [List.all_cons, Bool.and_eq_true, Bool.and_eq_true] at z
    obtain ⟨kn, e1, e2, e3⟩ := flat_pairs (sh := sh) h3 z.2
    cases h2 with
    | int n =>
      refine ⟨(k, n) :: kn, by rw [e1]; rfl, by rw [e2]; rfl, ?_⟩
      rw [List.all_cons, e3, Bool.and_true]
      have z1 := z.1.1
      cases k <;> cases sh <;> first | rfl | cases z1
    | _ => cases z.1.2
theorem adK_its (e : Key × Int) : itsP (adK e) = itK e := by
  obtain ⟨k, n⟩ := e
  cases k <;> rfl
theorem adK_fl : ∀ kn : List (Key × Int), (kn.map adK).all flP = true
  | [] => rfl
  | (k, n) :: r => by
    rw [List.map_cons, List.all_cons, adK_fl r, Bool.and_true]
    cases k <;> rfl
theorem r_sortIt {o : Expr} {fo : SE} {p1 ap p2 p3 : Pos} (hc : X.calm = true) (hg : Gl X "sorted") (hm : X.mg "sorted" = none) (ho : PE X o (lift w W fo)) (hK : w.K = X.K := by rfl)
    (hbase : attributeBase o "items" X.env (eval o X.env) = eval o X.env := by rfl) (hline : (ap.endLine == p2.line) = true := by rfl)
    (h1 : starEach [.Call (.Attribute o "items" ap) [] [] p2] X.env = (false, eval (.Call (.Attribute o "items" ap) [] [] p2) X.env) :: starEach [] X.env := by rfl) :
    PE X (.Call (.Name "sorted" p1) [.Call (.Attribute o "items" ap) [] [] p2] [] p3) (lift w W (eSortIt fo)) :=
  PE_imp (pe_callB (cr_sortK hc) hg hm rfl (pa_cons (pe_bm0 PySem.F.plainAttrs_dict PySem.F.slot_dict_items PySem.F.type_dict_items mt_itemsK ho hbase hline) pa_nil h1) (by decide) (by decide) h1 (by rfl)) fun σ H Q ⟨ρ, B, s, μ, rl, rs, ot⟩ => by
    refine lift_one (R' := fun x H1 => tyV X.K "dict" x H1 ∧ rItemsK x [] H1 fun x H2 => rSortK [x] H2 Q) rl rs ot fun x dx ρ2 B2 H2 μ2 _ rl2 rs2 p o2 => ?_
    cases e : dctD μ2 dx with
    | none => rw [e] at o2; exact o2.elim
    | some nk =>
      obtain ⟨n, kvs⟩ := nk
      rw [e] at o2
      obtain ⟨hsh, o2⟩ := chk_out o2
      obtain ⟨a, rfl, g1, g2, g3⟩ := dctD_ok rl2 p e
      have main : ∀ sh : Bool, (kvs.all fun p => (if sh then isS p.1 else isI p.1) && isI p.2) = true → tyV X.K "dict" (.ref a) H2 ∧ rItemsK (.ref a) [] H2 fun x H3 => rSortK [x] H3 Q := fun sh hs => by
        rcases g3 with ⟨ks, h1, h2⟩ | ⟨xs, h1, h2, h3, h4⟩
        · obtain ⟨kn, rfl, rfl, hk⟩ := flat_pairs (sh := sh) h2 hs
          refine ⟨.inr (.inr (.inl ⟨rfl, .inl ⟨_, h1⟩⟩)), a, _, rfl, rfl, h1, fun p hp => ?_⟩
          obtain ⟨k1, k2⟩ := rl2.known (o := itemsO p a) hp
          have hap : a ≠ p := fun z => by rw [z, hp] at h1; cases h1
          refine ⟨p, a, kn, sh, rfl, upd_same, by rw [upd_ne hap]; exact h1, hk, fun zs l hperm hsort hnd hz hl hl0 => ?_⟩
          obtain ⟨r1, r2, r3⟩ := known_pairs zs k1 hnd hz
          have hll : layP (upd H2 p (itemsO p a)) zs l = none := by rw [layP_ne zs _ _ hl]; exact hl0
          refine own_lst (W := fun c d H' => W c d σ H') r1 r3 hll ?_
          have es : zs.map adZ = (sortP (kn.map adK)).map fun p => AD.tup [p.1, p.2] := by
            have := sortP_uniq (ys := (zs.map (·.2)).map adK) (adK_fl kn) (hperm.map adK) (by
              rw [List.pairwise_map]
              refine hsort.imp fun {x y} h => ?_
              show OP.kle (itsP (adK x)) (itsP (adK y))
              rw [adK_its, adK_its]
              exact h)
            rw [← this, List.map_map, List.map_map]
            rfl
          rw [es]
          exact Out.step (k2.trans r2) o2
        · exfalso
          cases xs with
          | nil => exact h3 rfl
          | cons q r =>
            cases kvs with
            | nil => exact h2
            | cons z s =>
              obtain ⟨m, c, v⟩ := q
              obtain ⟨b, d⟩ := z
              obtain ⟨q1, _⟩ := h2
              rw [List.all_cons, Bool.and_eq_true, Bool.and_eq_true] at hs
              have hs := hs.1.1
              cases sh <;> (cases q1 <;> cases hs)
      unfold shP at hsh
      rw [Bool.or_eq_true] at hsh
      rcases hsh with hsh | hsh
      · exact main true hsh
      · exact main false hsh
end
end SC

set_option Elab.async false
set_option linter.all false
set_option maxRecDepth 100000
set_option maxHeartbeats 2000000
namespace SC
open PySem PySem.Spec PyProof.Rows L2
/-! ### defs as the head tells them -/
section
variable {P : Program} {wd : World} {K : PySem.W.Frag} {mg : Str → Option Value} {base : Heap} {k : Nat} {x qual : Str} {params : Arguments} {body : List Stmt} {scope : Scope} {dvs : List V} {kws : List (Str × V)} {f : Addr} {fd : FuncData} {N ps : List Str} {n m : Nat} {fb : SS} {w : Wo}
/-- a def without lambdas -/
theorem fn_scD (F : FunD K x qual params body scope dvs kws f fd) (S : FnScope N ps scope) (hn : N.length = n) (hm : ps.length = m)
    (hbody : ∀ (cdv : Value) (A : Around) (outer : List Env) (s : Shared) (H : Hp) (E : XK), RoomG k (A.deeper (envOfC qual scope s.heap.objs.size f cdv)) → PSs (cxOf (L2.CX P wd) P wd K mg base N qual scope f cdv A outer s H E) body (liftS w (fun cls d _ H' => E cls d H') fb)) :
    FnG P wd K mg base (L2.CX P wd) (k + 1) f fd ps (spF w (fnF n fb) m) := by
  obtain ⟨oc, od, dV, kV, doc, pm, an, cdv, ct, osl, rfl, lk, hcd, _, _⟩ := F.ex
  exact fn_sc lk hcd S hn hm fun A outer s H E hr => hbody cdv A outer s H E hr
/-- a def that makes lambdas -/
theorem fn_scL {pt : He.Defn} (F : FunD K x qual params body scope dvs kws (He.fAd K pt) fd) (S : FnScope N ps scope) (hw : w.cl = none) (hn : N.length = n) (hm : ps.length = m)
    (hbody : ∀ (A : Around) (outer : List Env) (s : Shared) (H : Hp) (E : XK), RoomG k (A.deeper (envOfC qual scope s.heap.objs.size (He.fAd K pt) (.ref (He.codeOf K pt)))) →
      PSs (cxOf (L2.CX P wd) P wd K mg base N qual scope (He.fAd K pt) (.ref (He.codeOf K pt)) A outer s H E) body (liftS (w.at' (some (cxOf (L2.CX P wd) P wd K mg base N qual scope (He.fAd K pt) (.ref (He.codeOf K pt)) A outer s H E).env.cells)) (fun cls d _ H' => E cls d H') fb)) :
    FnG P wd K mg base (L2.CX P wd) (k + 1) (He.fAd K pt) fd ps (spF w (fnL n fb) m) := by
  obtain ⟨oc, od, dV, kV, doc, pm, an, cdv, ct, osl, rfl, lk, hcd, _, _⟩ := F.ex
  obtain ⟨c, rfl⟩ := He.codeIn_ref hcd
  have ec : He.codeOf K pt = c := He.codeOf_eq lk rfl
  subst ec
  exact fnG_of lk hcd S (fun vs H Q E h => h.1.trans hm.symm) fun A outer s H vs Q E hr ⟨_, ρ, B, ds, μ, r, p, o⟩ => ⟨_, hbody A outer s H E hr, ρ, B, _, μ, r.up hw, rsl_up hw (rsl_start hn p), san_out (w := w) o⟩
end
end SC

set_option Elab.async false
set_option linter.all false
set_option maxRecDepth 100000
set_option maxHeartbeats 2000000
namespace SC
open PySem PySem.Spec PyProof.Rows L2 LamX
/-! ### the end of a law, by promises that hold where no repr is under way -/
section
variable {P : Program} {w : World} {K : PySem.W.Frag} {mg mb : Str → Option Value} {CX : CXT} {k : Nat} {fa a : Addr} {cs : List (Addr × Addr)} {fd : FuncData} {x : Str} {sp : Sp} {s₁ : Shared} {vs : List Value} {ns : List Int}
/-- what is tracked at the law's entry: the tables, the script where it is not written -/
def H0 (K : PySem.W.Frag) (T : List Addr) (a : Addr) (o : Obj) (ns : List Int) : Hp := fun b => if b ∈ T then some (.tbl #[]) else if b = a ∧ K.lookup a = none then some (.frz o (.lst (ns.map V.int))) else none
theorem h0_t {T : List Addr} {o : Obj} {b : Addr} (h : b ∈ T) : H0 K T a o ns b = some (.tbl #[]) := if_pos h
theorem h0_n {T : List Addr} {o : Obj} {b : Addr} (h : b ∉ T) (h2 : ¬ (b = a ∧ K.lookup a = none)) : H0 K T a o ns b = none := (if_neg h).trans (if_neg h2)
theorem h0_a {T : List Addr} {o : Obj} (h : a ∉ T) (h2 : K.lookup a = none) : H0 K T a o ns a = some (.frz o (.lst (ns.map V.int))) := (if_neg h).trans (if_pos ⟨rfl, h2⟩)
theorem law_callG (KX : K.In s₁.heap) (hns : s₁.heap.Ns mainGlobals mg) (hb : s₁.heap.Ns builtinsNs mb) (hbb : ∀ x : Str, x ≠ "__name__" → mb x = bootBuiltins x) (hlim : s₁.heap.NoLimit) (hg : s₁.gens = #[])
    (hT : ∀ p ∈ cs, s₁.heap.get? p.2 = some { cls := .none, data := .fields #[] }) (nT : ∀ p ∈ cs, K.lookup p.2 = none) (C : ∀ p ∈ cs, PySem.W.CodeHd s₁.heap p.1 p.2)
    (hbm : ∃ (bm : Addr) (ob : Obj), mg "__builtins__" = some (.ref bm) ∧ bm ≠ builtinsNs ∧ s₁.heap.get? bm = some ob ∧ ob.cls = .type "module" ∧ ob.dict = some builtinsNs ∧ ob.data = .plain)
    (ha : s₁.heap.get? a = some { cls := .type "list", data := .seq vs.toArray }) (hi : IntsAre vs ns) (hl : ns.length ≤ sizeLine) (hr : RoomG k callerA)
    (F : ∀ base : Heap, K.In base → base.Ns mainGlobals mg → (∀ p ∈ cs, TabB base mg p.1 p.2) → FnG P w K mg base CX k fa fd [x] sp) (hbind : ∀ (s : Shared) (u : Value), BindsTo s fd ⟨[u], []⟩ [(x, u)])
    (hsp : ∀ H : Hp, (∀ p ∈ cs, H p.2 = some (.tbl #[])) → SqL K H a (ns.map V.int) → sp [.ref a] H (fun v _ => v = .bl true) fun _ _ _ => False)
    (hCX : ∀ H e s', CX [] H s₁ (fun _ _ _ => False) e s' → False) :
    codeAny (model P w) callerA (.call (.ref fa) ⟨[.ref a], []⟩) (fun r s' => r = .ok (.ret (.bool true)) ∧ OldK s₁.heap s'.heap ∧ s'.os = s₁.os ∧ AllBare s'.gens) s₁ := by
  have rv := vals_ints hi
  have isT : ∀ b : Addr, b ∈ cs.map (·.2) → s₁.heap.get? b = some { cls := .none, data := .fields #[] } := fun b hb => by
    obtain ⟨p, hp, e⟩ := List.mem_map.mp hb
    rw [← e]; exact hT p hp
  have aT : a ∉ cs.map (·.2) := fun z => by
    have q := isT a z
    rw [ha] at q
    have z' : Data.seq vs.toArray _ = Data.fields #[] := congrArg Obj.data (Option.some.inj q)
    cases z'
  have memT : ∀ p ∈ cs, p.2 ∈ cs.map (·.2) := fun p hp => List.mem_map.mpr ⟨p, hp, rfl⟩
  obtain ⟨H, eH⟩ : ∃ H, H = H0 K (cs.map (·.2)) a { cls := .type "list", data := .seq vs.toArray } ns := ⟨_, rfl⟩
  have tH : ∀ b, b ∈ cs.map (·.2) → H b = some (.tbl #[]) := fun b hb => by rw [eH]; exact h0_t hb
  have nH : ∀ {b : Addr} {o : Obj}, s₁.heap.get? b = some o → (∀ ws n, o.data ≠ .seq ws n) → o.data ≠ .fields #[] → H b = none := fun {b o} e h1 h2 => by
    rw [eH]
    refine h0_n (fun z => ?_) (fun z => ?_)
    · rw [isT b z] at e; cases e; exact h2 rfl
    · rw [z.1, ha] at e; cases e; exact h1 _ _ rfl
  have dH : ∀ {b : Addr} {o : Obj} {es : Array DictEntry} {ep : Nat}, s₁.heap.get? b = some o → o.data = .dict es ep → H b = none := fun e d => nH e (fun ws n z => by rw [d] at z; cases z) (fun z => by rw [d] at z; cases z)
  have nsK : ∀ {b : Addr} {m : Str → Option Value}, s₁.heap.Ns b m → (hidT s₁.heap H).Ns b m := fun ⟨o, es, ep, e, d, r⟩ => ⟨o, es, ep, hidT_get e (dH e d), d, r⟩
  have hKb : K.In (hidT s₁.heap H) := fun b o e => hidT_get (KX b o e) (by
    rw [eH]
    refine h0_n (fun z => ?_) (fun z => ?_)
    · obtain ⟨p, hp, ep⟩ := List.mem_map.mp z
      rw [← ep, nT p hp] at e
      cases e
    · rw [z.1, z.2] at e; cases e)
  have hM : L2.Mod K mg (hidT s₁.heap H) := ⟨hKb, nsK hns, ⟨mb, nsK hb, hbb⟩, let ⟨mc, h1, h2⟩ := hlim; ⟨mc, nsK h1, h2⟩⟩
  have notG : ∀ {b : Addr} {o : Obj}, s₁.heap.get? b = some o → (∀ es ep, o.data ≠ .dict es ep) → b ≠ mainGlobals := fun e h z => by
    obtain ⟨o', es, ep, e', hd, _⟩ := hns
    rw [z, e'] at e; cases e
    exact h _ _ hd
  have TB : ∀ p ∈ cs, TabB (hidT s₁.heap H) mg p.1 p.2 := fun p hp => by
    have hTp := hT p hp
    refine ⟨?_, ?_, fun z => notG hTp (fun _ _ q => by cases q) z.symm⟩
    · obtain ⟨o, us, file, tf, flags, tg, inF, text, tt, e1, r1, r2, r3, r⟩ := C p hp
      exact ⟨o, us, file, tf, flags, tg, inF, text, tt, hidT_get e1 (nH e1 (fun ws n z => by rw [r2] at z; cases z) (fun z => by rw [r2] at z; cases z; simp at r3)), r1, r2, r3, r⟩
    · obtain ⟨bm, ob, b1, b2, b3, b4, b5, b6⟩ := hbm
      exact ⟨bm, ob, b1, b2, notG b3 (fun _ _ z => by rw [b6] at z; cases z), (fun q => by rw [q, hTp] at b3; cases b3; cases b6), hidT_get b3 (nH b3 (fun _ _ z => by rw [b6] at z; cases z) (fun z => by rw [b6] at z; cases z)), b4, b5, b6⟩
  have hok : HOk P w H s₁.heap := fun b u z => by
    by_cases hbT : b ∈ cs.map (·.2)
    · rw [tH b hbT] at z; cases z
      exact isT b hbT
    · by_cases hba : b = a ∧ K.lookup a = none
      · obtain ⟨rfl, hk⟩ := hba
        rw [eH, h0_a hbT hk] at z
        cases z
        exact ⟨ha, by rw [List.length_map]; exact hl, vs, _, rv, ha⟩
      · rw [eH, h0_n hbT hba] at z; cases z
  have hS : SqL K H a (ns.map V.int) := by
    cases hk : K.lookup a with
    | some o =>
      have e := KX a o hk
      rw [ha] at e
      cases e
      exact .inr ⟨_, vs.toArray, _, hk, rfl, rfl, rfl, by rw [List.size_toArray, hi.length]; exact hl, by simpa using rv⟩
    | none => exact .inl (.inr ⟨_, by rw [eH]; exact h0_a aT hk⟩)
  have e0 : Env0 P w K mg (hidT s₁.heap H) callerA [] s₁ H := ⟨rfl, hM, fun b o e => of_hidT e, Nat.le_of_eq (hidT_size _ _), trivial, fun b hb => absurd (show b ∈ ([] : List Addr) from hb) (by simp), hok, .of_eq hg⟩
  refine codeAny_mono ((F _ hKb (nsK hns) TB).run callerA [] s₁ H ⟨[.ref a], []⟩ [.ref a] [.ref a] _ _ hr e0 (hbind s₁ (.ref a)) (.cons rfl .nil) (hsp H (fun p hp => tH _ (memT p hp)) hS)) fun r s' h => ?_
  match r, h with
  | .error e, h => exact (hCX H e s' h).elim
  | .ok .next, h => exact False.elim h
  | .ok .brk, h => exact False.elim h
  | .ok .cont, h => exact False.elim h
  | .ok (.ret u), ⟨v, H', os, bare, un, hok', r', q⟩ =>
    have q' : v = .bl true := q
    subst q'
    obtain rfl : u = Value.bool true := r'
    have key : ∀ b o, b ∉ cs.map (·.2) → s₁.heap.get? b = some o → s'.heap.get? b = some o := fun b o nb e => by
      by_cases hba : b = a ∧ K.lookup a = none
      · obtain ⟨rfl, hk⟩ := hba
        obtain ⟨e2, _⟩ := hok' b _ (un.frzs b _ _ (by rw [eH]; exact h0_a nb hk))
        rw [ha] at e; cases e
        exact e2
      · exact un.keep b o e (by rw [eH]; exact h0_n nb hba) (by intro z; exact absurd (show b ∈ ([] : List Addr) from z) (by simp)) (by simp)
    have grown : ∀ b ∈ cs.map (·.2), ∃ more : Array Value, s'.heap.get? b = some { cls := .none, data := .fields more } := fun b hb => by
      obtain ⟨more, z⟩ := un.tbls b #[] (tH b hb)
      exact ⟨_, hok' b _ z⟩
    refine ⟨rfl, ⟨fun b o e => ?_, fun b o e => ?_⟩, os, bare⟩
    · by_cases hb : b ∈ cs.map (·.2)
      · obtain ⟨p, hp, ep⟩ := List.mem_map.mp hb
        obtain ⟨more, hm⟩ := grown b hb
        rw [isT b hb] at e
        cases e
        subst ep
        exact .inr (.inl ⟨((C p hp).tab (hT p hp)).isCodeTable, rfl, #[], more, rfl, by rw [Array.empty_append]; exact hm⟩)
      · exact .inl (key b o hb e)
    · by_cases hb : b ∈ cs.map (·.2)
      · obtain ⟨more, hm⟩ := grown b hb
        exact ⟨_, hm⟩
      · exact ⟨o, key b o hb e⟩
end
/-- what is known of the law's promise at the head's heap h -/
def LawAtG (l : PySem.W.OpenLaw) (w : World) (K : PySem.W.Frag) (CX : CXT) (k n : Nat) (x : Str) (mg : Str → Option Value) (fa : Addr) (h : Heap) : Prop :=
  ∃ (fd : FuncData) (cs : List (Addr × Addr)) (sp : Sp), (∀ p ∈ cs, h.get? p.2 = some { cls := .none, data := .fields #[] }) ∧ (∀ p ∈ cs, K.lookup p.2 = none) ∧ (∀ p ∈ cs, PySem.W.CodeHd h p.1 p.2) ∧ (∀ (s : Shared) (u : Value), BindsTo s fd ⟨[u], []⟩ [(x, u)]) ∧
    (∀ (H : Hp) (a : Addr) (ns : List Int), ns.length ≤ n → (∀ z ∈ ns, Builtin.Int.intBits z ≤ 1048576) → (∀ p ∈ cs, H p.2 = some (.tbl #[])) → SqL K H a (ns.map V.int) → sp [.ref a] H (fun v _ => v = .bl true) fun _ _ _ => False) ∧
    ∀ base : Heap, K.In base → base.Ns mainGlobals mg → (∀ p ∈ cs, TabB base mg p.1 p.2) → FnG l.prog w K mg base CX k fa fd [x] sp
theorem walk_G {l : PySem.W.OpenLaw} {n k : Nat} {q : Program} {loose : List Str} {XP : (Str → Option Value) → Heap → Prop} {YP : World → Heap → Prop} {d : DefRec} {K : Params → PySem.W.Frag} {CX : World → CXT} {x : Str}
    (hn : l.most = some n) (hn2 : n ≤ sizeLine) (hdf : d.params.defaults = []) (hr : RoomG k callerA) (hY : ∀ (w : World) (h : Heap), YP w h → (K w.params).In h)
    (F : ∀ (w : World) (mg : Str → Option Value) (fa : Addr) (h : Heap), YP w h → (K w.params).In h → h.Ns mainGlobals mg → mg d.name = some (.ref fa) → LawAtG l w (K w.params) (CX w) k n x mg fa h)
    (hCX : ∀ (w : World) (H : Hp) (s : Shared) (e : Value) (s' : Shared), CX w [] H s (fun _ _ _ => False) e s' → False) :
    PySem.W.WalkO q loose XP YP l.row.toRowW d [] (fun f vs => PySem.call f vs) := by
  refine Att.attach_callB hn hdf fun w s₀ s₁ mg mb fa o pm cd doc a vs ns G Y ho hd hcd hmg hobj hints hlen hbits hg => ?_
  have KX := hY w _ Y
  obtain ⟨fd, cs, sp, hT, nT, C, hb, hsp, hF⟩ := F w mg fa _ Y KX G.T.g hmg
  exact law_callG KX G.T.g G.T.b G.T.builtins G.T.nolimit hg hT nT C G.T.bmain hobj hints (Nat.le_trans hlen hn2) hr hF hb (fun H hH hS => hsp H a ns hlen hbits hH hS) fun H e s' => hCX w H s₁ e s'
end SC

set_option Elab.async false
set_option linter.all false
set_option maxRecDepth 100000
set_option maxHeartbeats 2000000
namespace SC
open PySem PySem.Spec PyProof.Rows L2
/-! ### a call that gives a list of one's own -/
def backO (μ : Store) (res : R AD) : R AD := match res with
  | .ok (.ref n) μ' => (match μ'[n]? with
    | some (.lst ds) => (match mapO (frzD false 0 μ' fz) ds with
      | some ds' => .ok (.ref μ.length) (μ ++ [.lst ds'])
      | none => .bad)
    | _ => .bad)
  | .exc c d μ' => (match frzD true 0 μ' fz d with
    | some d' => .exc c d' μ
    | none => .bad)
  | _ => .bad
def callO (n : Nat) (f : List AD → Store → R AD) (ds : List AD) (μ : Store) : R AD := if ds.length = n then (if ds.all (okD fz) then backO μ (f ds []) else .bad) else .bad
open Classical in
noncomputable def offB (B : Hp) (a : Addr) : Hp := fun b => if b = a then none else B b
section
variable {w : Wo} {c : Option (List (Str × Addr))} {ρ : List Addr} {B H : Hp} {μ : Store} {W : Value → Option Addr → Hp → Prop} {Q : VK}
theorem crossO (r : Rl (w.at' c) ρ B μ H) {res : R AD} (o : Out (w.at' c) W (PV (w.at' c)) ρ B H (backO μ res) Q) : Out w W (PV w) [] B H res Q := by
  have E := entP r
  have main : ∀ ρ' B' H' μ', Le [] B H ρ' B' H' → Rl w ρ' B' μ' H' → Rl (w.at' c) ρ (backB [] ρ ρ' B' H') μ (delC [] H') ∧ Le ρ B H ρ (backB [] ρ ρ' B' H') (delC [] H') := fun ρ' B' H' μ' l r' =>
    back E r l r' rfl (fun _ _ _ _ => rfl) fun _ _ _ z => absurd z (by simp)
  match res, o with
  | .bad, o => exact o.elim
  | .exc k d μ', o =>
    intro ρ' B' H' dx v l r' h1 p
    simp only [backO] at o
    cases e : frzD true 0 μ' fz d with
    | none => rw [e] at o; exact o.elim
    | some d' =>
      rw [e] at o
      obtain ⟨x, y⟩ := main ρ' B' H' μ' l r'
      exact o _ _ _ dx v y x (back_B E r l r' dx _ h1 (fun ob z => by cases z) fun _ xs z => by cases z) (frz_out (back_B E r l r') (fun _ n a o hn => back_R E r l r' n a o hn) r'.obj fz p e)
  | .ok d μ', o =>
    intro ρ' B' H' v l r' p
    cases p with
    | @ref a n hn =>
      simp only [backO] at o
      obtain ⟨ob, e1, e2⟩ := r'.obj n a hn
      rw [e1] at o
      cases ob with
      | dct _ => exact o.elim
      | any => exact o.elim
      | lst ds =>
        simp only at o
        cases e3 : mapO (frzD false 0 μ' fz) ds with
        | none => rw [e3] at o; exact o.elim
        | some ds' =>
          rw [e3] at o
          obtain ⟨vs, g1, g2⟩ := e2
          obtain ⟨R1, L1⟩ := main ρ' B' H' μ' l r'
          have ha' : a ∈ ρ' := mem_of_get hn
          have hH : H a = none := by
            rcases l.freshR a ha' with z | z
            · exact absurd z (by simp)
            · exact z
          have nr : a ∉ ρ := fun z => r.there a z hH
          have hBa : B a = none := by
            cases e : B a with
            | none => rfl
            | some u => rw [r.ex a u e] at hH; cases hH
          have hbb : backB [] ρ ρ' B' H' a = some (.lst vs) := by
            unfold backB
            rw [if_neg (fun z => z.elim nr fun ⟨_, q⟩ => by cases q), if_pos ha']
            exact g1
          have off_ne : ∀ {b}, b ≠ a → offB (backB [] ρ ρ' B' H') a b = backB [] ρ ρ' B' H' b := fun h => by unfold offB; rw [if_neg h]
          have off_a : offB (backB [] ρ ρ' B' H') a a = none := by unfold offB; rw [if_pos rfl]
          have exB : Ex B (offB (backB [] ρ ρ' B' H') a) := fun b u e => by
            rw [off_ne (fun z => by rw [z, hBa] at e; cases e)]
            exact L1.ex b u e
          have hH1 : delC [] H' a = some (.lst vs) := by rw [delC_n (fun ⟨_, z⟩ => by cases z)]; exact g1
          have reps : Reps (w.at' c) (ρ ++ [a]) (offB (backB [] ρ ρ' B' H') a) vs ds' := reps_map (f := fun d d' => frzD false 0 μ' fz d = some d') (fun v d d' q x => frz_out (L := false) (fun b u hb h1 h2 => by
              rw [off_ne (fun z => by rw [z, r'.off a ha'] at hb; cases hb)]
              exact back_B E r l r' b u hb h1 fun z => by cases z) (fun z => by cases z) r'.obj fz q x) g2 (mapO_some (fun _ _ x => x) e3)
          have RL : Rl (w.at' c) (ρ ++ [a]) (offB (backB [] ρ ρ' B' H') a) (μ ++ [.lst ds']) (delC [] H') := by
            refine ⟨fun b u e => ?_, ?_, fun b hb => ?_, fun m b hb => ?_, by rw [List.length_append, List.length_append, r.len]; rfl, fun p hp => ?_⟩
            · by_cases z : b = a
              · rw [z, off_a] at e; cases e
              · rw [off_ne z] at e; exact R1.ex b u e
            · refine List.nodup_append.mpr ⟨r.nd, by simp, fun x hx y hy => ?_⟩
              rw [List.mem_singleton] at hy
              subst hy
              exact fun z => nr (z ▸ hx)
            · by_cases z : b = a
              · rw [z, off_a]
              · rw [off_ne z]
                rcases List.mem_append.mp hb with hb | hb
                · exact R1.off b hb
                · exact absurd (List.mem_singleton.mp hb) z
            · by_cases hl : m < ρ.length
              · rw [List.getElem?_append_left hl] at hb
                obtain ⟨ob, q1, q2⟩ := r.obj m b hb
                refine ⟨ob, by rw [List.getElem?_append_left (r.len ▸ hl)]; exact q1, q2.mono exB ⟨[a], rfl⟩ ?_⟩
                cases e : H b with
                | none => exact absurd e q2.some
                | some u =>
                  rw [delC_n (fun ⟨_, z⟩ => by cases z)]
                  exact l.keep b u (by simp) (fun ps z => q2.tbl ps (by rw [e, z])) e
              · have hm : m = ρ.length := by
                  have := (List.getElem?_eq_some_iff.mp hb).1
                  simp at this; omega
                subst hm
                simp at hb
                subst hb
                exact ⟨.lst ds', by rw [r.len]; simp, vs, hH1, reps⟩
            · obtain ⟨t1, t2, ps, t3, t4, t5⟩ := R1.tab p hp
              have hpa : p.1 ≠ a := fun z => by
                obtain ⟨_, _, ps0, u3, _⟩ := r.tab p hp
                rw [z, hH] at u3; cases u3
              refine ⟨fun z => ?_, by rw [off_ne hpa]; exact t2, ps, t3, t4, fun pos cv hc => ?_⟩
              · rcases List.mem_append.mp z with z | z
                · exact t1 z
                · exact hpa (List.mem_singleton.mp z)
              · obtain ⟨cc, q1, q2⟩ := t5 pos cv hc
                refine ⟨cc, q1, ?_⟩
                rw [off_ne (fun z => by rw [z, hbb] at q2; unfold LamX.CodeO at q2; cases q2)]
                exact q2
          refine o _ _ _ (.ref a) ⟨⟨[a], rfl⟩, exB, L1.keep, L1.ne, fun b hb => ?_, fun b hb => ?_, fun b hb => ?_⟩ RL (.ref (by rw [← r.len]; simp))
          · by_cases z : b = a
            · exact .inr (z ▸ hH)
            · rw [off_ne z] at hb; exact L1.fresh b hb
          · rcases List.mem_append.mp hb with hb | hb
            · exact .inl hb
            · rw [List.mem_singleton] at hb; exact .inr (hb ▸ hH)
          · rcases List.mem_append.mp hb with hb | hb
            · exact L1.there b hb
            · rw [List.mem_singleton] at hb; rw [hb]; exact fun z => by rw [g1] at z; cases z
    | _ => exact o.elim
theorem callO_sp {fF : List AD → Store → R AD} {vs : List V} {ds : List AD} {n : Nat} {E : XK} (hw : w.cl = none) (r : Rl (w.at' c) ρ B μ H) (p : Reps (w.at' c) ρ B vs ds) (o : Out (w.at' c) (fun k d H' => E k d H') (PV (w.at' c)) ρ B H (callO n fF ds μ) Q) : spF w fF n vs H Q E := by
  unfold callO at o
  split at o
  · rename_i hl
    split at o
    · rename_i ha
      refine ⟨p.length.trans hl, [], B, ds, [], start_rl r, ?_, ?_⟩
      · have q := okD_ins (w := w.at' c) (c := none) (ρ' := []) (fun _ _ h => h) p ha
        rw [at_at, at_self w hw] at q
        exact q
      · exact crossO (W := fun k d H' => E k d H') r o
    · exact o.elim
  · exact o.elim
end
def eCallO (n : Nat) (f : List AD → Store → R AD) (fa : SA) : SE := fun s μ => (fa s μ).bind fun ds μ1 => callO n f ds μ1
section
variable {X : Cx} {w : Wo} {c : Option (List (Str × Addr))} {W : WX} {k : Nat} {f : Addr} {fd : FuncData} {ps : List Str} {fF : List AD → Store → R AD} {x : Str} {p pos : Pos} {e : Expr} {es : List Expr} {fa : SA} {n : Nat}
theorem r_callO (hw : w.cl = none) (F : FnG X.prog X.w X.K X.mg X.base (L2.CX X.prog X.w) k f fd ps (spF w fF n)) (hr : RoomG k X.A) (hg : Gl X x) (hm : X.mg x = some (.ref f)) (hk : PySem.W.keepIn X.K (.ref f) = true) (hb : Binds X.K fd ps []) (tk : Takes X W)
    (ha : PA X (e :: es) (liftA (w.at' c) W fa)) (hdb : (x == ("__debug__" : Str)) = false := by decide) (he : starEach (e :: es) X.env = (false, eval e X.env) :: starEach es X.env := by rfl) (hpl : (backTo pos (starEach es X.env)).any (·.1) = false := by rfl) :
    PE X (.Call (.Name x p) (e :: es) [] pos) (lift (w.at' c) W (eCallO n fF fa)) :=
  PE_imp (pe_callG F hr hg hm hk hb (fun σ => passAt tk σ) ha hdb he hpl) fun σ H Q ⟨ρ, B, s, μ, rl, rs, o⟩ =>
    liftA_k rl rs o fun xs ds ρ2 B2 H2 μ2 _ rl2 rs2 p o2 => callO_sp (E := WE W σ) hw rl2 p o2
end
/-! ### -e -/
def uNeg : AD → Store → R AD := fun x μ => match x with
  | .int i => .ok (.int (-i)) μ
  | _ => .bad
theorem s_neg {w : Wo} : UnS w (rU fun i => .int (-i)) uNeg := by
  intro W x dx ρ B H μ Q rl p o
  cases p with
  | int i => exact ⟨i, rfl, out_now rl (.int _) o⟩
  | _ => exact o.elim
end SC

set_option Elab.async false
set_option linter.all false
set_option maxRecDepth 100000
set_option maxHeartbeats 2000000
/-! a head's facts of what is reached from the module and of the statics -/
namespace SC
open PySem PySem.Spec PyProof.Rows L2 He
def asY (g : Addr → Option Obj) (n : Nat) : List Addr := cStatics :: asD g n
def obsY (n : Nat) (fa : List Fa) (fn : List DefD) (tf : List Defn) (ex : PySem.W.Frag → Bool) (g : Addr → Option Obj) : AlX := (obsT fa fn [] (frT g (asY g n)), ex (frT g (asY g n)) && tabsB g tf (frT g (asY g n)))
theorem saysY_of {n : Nat} {fa : List Fa} {fn : List DefD} {tf : List Defn} {ex : PySem.W.Frag → Bool} {w : World} {h : Heap} (e : obsY n fa fn tf ex h.get? = valX fn [] w) : SaysX fa fn [] tf ex w h (frT h.get? (asY h.get? n)) := by
  have e2 : (ex (frT h.get? (asY h.get? n)) && tabsB h.get? tf (frT h.get? (asY h.get? n))) = true := congrArg (fun z : AlX => z.2) e
  rw [Bool.and_eq_true] at e2
  have key : ∀ p ∈ tf, PySem.W.codeHdIn (frT h.get? (asY h.get? n)) (cT (frT h.get? (asY h.get? n)) p).1 (cT (frT h.get? (asY h.get? n)) p).2 = true ∧ ∃ o, h.get? (cT (frT h.get? (asY h.get? n)) p).2 = some o ∧ emptyTab o = true := fun p hp => by
    have q := List.all_eq_true.mp e2.2 p hp
    rw [Bool.and_eq_true] at q
    refine ⟨q.1, ?_⟩
    have q2 := q.2
    split at q2
    · exact ⟨_, ‹_›, q2⟩
    · cases q2
  exact ⟨congrArg (fun z : AlX => z.1) e, e2.1, fun p hp => (key p hp).1, fun p hp => by
    obtain ⟨_, o, q, z⟩ := key p hp
    exact frT_none q z, fun p hp => by
    obtain ⟨_, o, q, z⟩ := key p hp
    rw [q, emptyTab_eq z]⟩
def hookY (n : Nat) (fa : List Fa) (fn : List DefD) (tf : List Defn) (ex : PySem.W.Frag → Bool) : PySem.W.Hook where
  α := AlX
  obs := fun s => obsY n fa fn tf ex s.heap.get?
  val := fun w => valX fn [] w
  says := fun w h => ∃ K : PySem.W.Frag, K.In h ∧ SaysX fa fn [] tf ex w h K
  of := fun _ _ e => ⟨_, frT_in, saysY_of e⟩
  keeps := fun _ _ _ ⟨K, hK, c⟩ k => ⟨K, PySem.W.Frag.In.keeps hK k, ⟨c.t, c.more, c.hd, c.out, fun p hp => k _ _ (c.empty p hp)⟩⟩
theorem obsY_eq {n : Nat} {fa : List Fa} {fn : List DefD} {tf : List Defn} {ex : PySem.W.Frag → Bool} {g : Addr → Option Obj} {s : Shared} (h : ∀ a, g a = s.heap.get? a) : obsY n fa fn tf ex g = (hookY n fa fn tf ex).obs s := by
  have e : g = s.heap.get? := funext h
  rw [e] <;> rfl
end SC

set_option Elab.async false
set_option linter.all false
set_option maxRecDepth 100000
set_option maxHeartbeats 2000000
/-! the exceptions' facts: what the head tells of PieceError's __init__ and of its classes; a def's promise as a call takes it -/
namespace SC
open PySem PySem.Spec PyProof.Rows L2 He LamX NdefX
/-! ### PieceError's __init__ -/
abbrev IFn : Type := Option (Str × Str × Arguments × FuncBody × Scope × Addr × List Str × Addr)
def pD (K : PySem.W.Frag) : Addr := ga K "PieceError"
def pI (K : PySem.W.Frag) : Addr := ma K (pD K) "__init__"
def iFn (K : PySem.W.Frag) : IFn := match K.lookup (pI K) with
  | some ⟨_, _, .func fd, _⟩ => some (fd.name, fd.qualname, fd.params, fd.body, fd.scope, fd.globals, fd.closure.map (·.1), fd.builtins)
  | _ => none
def fileB (K : PySem.W.Frag) (file : Str) (cda : Addr) : Bool := match K.lookup cda with
  | some ⟨_, _, .fields vs, _⟩ => (match vs[2]? with
    | some (Value.str f _) => file == f
    | _ => false)
  | _ => false
def cellB (K : PySem.W.Frag) (D cc : Addr) : Bool := match K.lookup cc with
  | some ⟨_, _, .cell (some (.ref b)), _⟩ => decide (b = D)
  | _ => false
def initB (K : PySem.W.Frag) (file : Str) : Bool := match K.lookup (pI K) with
  | some ⟨_, _, .func fd, _⟩ => (match fd.defaults, fd.code, fd.closure with
    | .none, .ref cda, [(_, cc)] => PySem.W.codeIn K (.ref cda) "PieceError.__init__" && (fileB K file cda && cellB K (pD K) cc)
    | _, _, _ => false)
  | _ => false
def baseB (K : PySem.W.Frag) (file : Str) : Bool := initB K file && ((PySem.W.clsIn K (pD K)).isSome && (decide (PySem.W.nsIn K cStatics "thirdparty.any" = some none)))
theorem baseT_of {K : PySem.W.Frag} {prog : Program} {mg : Str → Option Value} {p1 p2 q1 q2 q3 q4 q5 q6 r1 r2 r3 r4 : Pos}
    (e : iFn K = (some ("__init__", "PieceError.__init__", SCX.iA p1 p2, .stmts (SCX.iB q1 q2 q3 q4 q5 q6 r1 r2 r3 r4), SCX.iS, mainGlobals, ["__class__"], builtinsNs) : IFn)) (b : baseB K prog.main.file = true)
    (mc : ∀ fI cda cc, SCX.McOk fI cda cc q1 q2 q3 q4 q5) (sup : mg "super" = none) (top : (prog.main.scope.names.lookup ("super" : Str)).isSome = false) : SCX.BaseT prog K mg (pD K) (pI K) := by
  obtain ⟨b1, b2⟩ := ba b
  obtain ⟨b2, b3⟩ := ba b2
  refine ⟨?_, Option.isSome_iff_exists.mp b2, sup, of_decide_eq_true b3, top⟩
  unfold iFn at e
  unfold initB at b1
  split at e
  rotate_left
  · cases e
  rename_i oc od fd osl lk
  rw [lk] at b1
  obtain ⟨n1, n2, n3, n4, n5, n6, n7, n8, n9, n10, n11, n12, n13, n14, n15⟩ := fd
  simp only [Option.some.injEq, Prod.mk.injEq] at e
  obtain ⟨h1, h2, h3, h4, h5, h6, h7, h8⟩ := e
  subst h1 h2 h3 h4 h5 h6 h8
  simp only at b1
  split at b1
  rotate_left
  · cases b1
  rename_i x1 x2 x3 cda nm cc
  simp only [List.map_cons, List.map_nil, List.cons.injEq, and_true] at h7
  subst h7
  obtain ⟨c1, c2⟩ := ba b1
  obtain ⟨c2, c3⟩ := ba c2
  refine ⟨oc, od, n9, n10, n11, n12, n14, osl, cda, cc, p1, p2, q1, q2, q3, q4, q5, q6, r1, r2, r3, r4, lk, c1, mc _ _ _, ?_, ?_⟩
  · unfold fileB at c2
    split at c2
    rotate_left
    · cases c2
    rename_i ccl cdd vs ccs lk2
    split at c2
    rotate_left
    · cases c2
    rename_i f tf hv
    exact ⟨ccl, cdd, vs, ccs, f, tf, lk2, hv, c2⟩
  · unfold cellB at c3
    split at c3
    rotate_left
    · cases c3
    rename_i cl cld bb csl lk2
    have := of_decide_eq_true c3
    subst this
    exact ⟨cl, cld, csl, lk2⟩
/-! ### a class of it -/
def clsObjB (K : PySem.W.Frag) (C : Addr) : Bool := match K.lookup C with
  | some ⟨.type t, _, .cls cd, sl⟩ => (match cd.mro, sl.toList with
    | .ref C' :: bm, [_, _, _, _, some (.builtin n), _] => decide (t = "type") && (decide (C' = C) && (decide (n = "ValueError.__new__") && (!cd.hasDel && (cd.hasDict && HandSPX.refsVE bm))))
    | _, _ => false)
  | _ => false
theorem clsObjB_ok {K : PySem.W.Frag} {C : Addr} (h : clsObjB K C = true) : ∃ nm q N bs bm sn sub ab col dd k0 k1 k2 k3 k5, K.lookup C = some (excClassObj nm q C N bs bm true sn sub ab col dd k0 k1 k2 k3 k5 "ValueError.__new__") ∧ HandSPX.refsVE bm = true := by
  unfold clsObjB at h
  split at h
  rotate_left
  · cases h
  rename_i t dd cd sl lk
  split at h
  rotate_left
  · cases h
  rename_i C' bm k0 k1 k2 k3 n k5 hm hs
  obtain ⟨c1, h⟩ := ba h
  obtain ⟨c2, h⟩ := ba h
  obtain ⟨c3, h⟩ := ba h
  obtain ⟨c4, h⟩ := ba h
  obtain ⟨c5, c6⟩ := ba h
  have c1 := of_decide_eq_true c1
  have c2 := of_decide_eq_true c2
  have c3 := of_decide_eq_true c3
  rw [Bool.not_eq_true'] at c4
  obtain ⟨nm, bs, mro, ns, qn, hd, sn, sub, ab, col, del⟩ := cd
  dsimp only at hm c4 c5
  subst hm c4 c5 c1 c2 c3
  have hsl : sl = #[k0, k1, k2, k3, some (.builtin "ValueError.__new__"), k5] := by
    obtain ⟨l⟩ := sl
    simp only at hs
    rw [hs]
  subst hsl
  exact ⟨nm, qn, ns, bs, bm, sn, sub, ab, col, dd, k0, k1, k2, k3, k5, lk, c6⟩
def clsF (K : PySem.W.Frag) (C : Addr) : Bool := clsObjB K C && (decide (PySem.W.findIn K (.ref C) "__setattr__" = some (some (.builtin "object.__setattr__"))) && (decide (PySem.W.findIn K (.ref C) "value" = some none) && (decide (PySem.W.findIn K (.ref C) "__init__" = some (some (.ref (pI K)))) &&
  (decide (PySem.W.typeIn K (.ref (pI K)) = some (.type "function")) && (PySem.W.keepIn K (.ref C) && (decide (PySem.W.subIn K (.ref C) (.type "BaseException") = some true) && (decide (PySem.W.typeIn K (.ref C) = some (.type "type")) && (decide (PySem.W.subIn K (.ref C) (.type "ValueError") = some true) &&
  (decide (PySem.W.mroIn K C (.ref (pD K)) = some true) && decide (PySem.W.ks_superIn K C (pD K) "__init__" = some (some (.builtin "ValueError.__init__"))))))))))))
theorem clsF_ok {K : PySem.W.Frag} {C : Addr} (h : clsF K C = true) : SCX.ClsT K (pD K) (pI K) C := by
  obtain ⟨a1, h⟩ := ba h
  obtain ⟨a2, h⟩ := ba h
  obtain ⟨a3, h⟩ := ba h
  obtain ⟨a4, h⟩ := ba h
  obtain ⟨a5, h⟩ := ba h
  obtain ⟨a6, h⟩ := ba h
  obtain ⟨a7, h⟩ := ba h
  obtain ⟨a8, h⟩ := ba h
  obtain ⟨a9, h⟩ := ba h
  obtain ⟨a10, a11⟩ := ba h
  exact ⟨clsObjB_ok a1, of_decide_eq_true a2, of_decide_eq_true a3, of_decide_eq_true a4, of_decide_eq_true a5, a6, of_decide_eq_true a7, of_decide_eq_true a8, of_decide_eq_true a9, of_decide_eq_true a10, of_decide_eq_true a11⟩
/-- what is asked of a class whose instances are looked at -/
def seenF (K : PySem.W.Frag) (C : Addr) : Bool := decide (PySem.W.findIn K (.ref C) "__getattribute__" = some (some (.builtin "BaseException.__getattribute__"))) && (decide (PySem.W.findIn K (.ref C) "__getattr__" = some none) && (decide (PySem.W.subIn K (.ref C) (.type "BaseException") = some true) && (PySem.W.hasDictIn K C &&
  (decide (PySem.W.findIn K (.ref C) "value" = some none) && ((PySem.W.clsIn K C).isSome && (decide (PySem.W.findIn K (.ref C) "__class__" = some (some (.builtin "object.__class__"))) && (decide (PySem.W.specialIn K (.builtin "object.__class__") "__get__" = some (some (.builtin "getset_descriptor.__get__"))) &&
  (decide (PySem.W.takesIn K (.builtin "object.__class__") = some true) && decide (PySem.W.mroIn K C (.type "object") = some true)))))))))
theorem seenF_ok {K : PySem.W.Frag} {C : Addr} (h : seenF K C = true) : XvT K C ∧ XiT K C := by
  obtain ⟨a1, h⟩ := ba h
  obtain ⟨a2, h⟩ := ba h
  obtain ⟨a3, h⟩ := ba h
  obtain ⟨a4, h⟩ := ba h
  obtain ⟨a5, h⟩ := ba h
  obtain ⟨a6, h⟩ := ba h
  obtain ⟨a7, h⟩ := ba h
  obtain ⟨a8, h⟩ := ba h
  obtain ⟨a9, a10⟩ := ba h
  have a1 := of_decide_eq_true a1
  have a2 := of_decide_eq_true a2
  have a3 := of_decide_eq_true a3
  exact ⟨⟨⟨a1, a2, a3, a4⟩, of_decide_eq_true a5⟩, ⟨a6, a1, a2, a3, of_decide_eq_true a7, of_decide_eq_true a8, of_decide_eq_true a9, of_decide_eq_true a10⟩⟩
/-! ### the hook, with the __init__ -/
structure SaysZ (fa : List Fa) (fn : List DefD) (tf : List Defn) (ex : PySem.W.Frag → Bool) (iv : IFn) (w : World) (h : Heap) (K : PySem.W.Frag) : Prop extends SaysX fa fn [] tf ex w h K where
  ini : iFn K = iv
abbrev AlZ : Type := AlX × IFn
def obsZ (n : Nat) (fa : List Fa) (fn : List DefD) (tf : List Defn) (ex : PySem.W.Frag → Bool) (g : Addr → Option Obj) : AlZ := (obsY n fa fn tf ex g, iFn (frT g (asY g n)))
def hookZ (n : Nat) (fa : List Fa) (fn : List DefD) (tf : List Defn) (ex : PySem.W.Frag → Bool) (iv : IFn) : PySem.W.Hook where
  α := AlZ
  obs := fun s => obsZ n fa fn tf ex s.heap.get?
  val := fun w => (valX fn [] w, iv)
  says := fun w h => ∃ K : PySem.W.Frag, K.In h ∧ SaysZ fa fn tf ex iv w h K
  of := fun _ _ e => ⟨_, frT_in, saysY_of (congrArg (fun z : AlZ => z.1) e), congrArg (fun z : AlZ => z.2) e⟩
  keeps := fun _ _ _ ⟨K, hK, c⟩ k => ⟨K, PySem.W.Frag.In.keeps hK k, ⟨c.t, c.more, c.hd, c.out, fun p hp => k _ _ (c.empty p hp)⟩, c.ini⟩
theorem obsZ_eq {n : Nat} {fa : List Fa} {fn : List DefD} {tf : List Defn} {ex : PySem.W.Frag → Bool} {iv : IFn} {g : Addr → Option Obj} {s : Shared} (h : ∀ a, g a = s.heap.get? a) : obsZ n fa fn tf ex g = (hookZ n fa fn tf ex iv).obs s := by
  have e : g = s.heap.get? := funext h
  rw [e] <;> rfl
/-! ### a def's promise, as a call takes it -/
structure DefOk (P : Program) (wd : World) (K : PySem.W.Frag) (mg : Str → Option Value) (base : Heap) (w : Wo) (k : Nat) (x : Str) (n : Nat) (fF : List AD → Store → R AD) : Prop where
  ex : ∃ (f : Addr) (fd : FuncData) (ps : List Str), FnG P wd K mg base (L2.CX P wd) k f fd ps (spF w fF n) ∧ mg x = some (.ref f) ∧ PySem.W.keepIn K (.ref f) = true ∧ Binds K fd ps []
section
variable {X : Cx} {w : Wo} {W : WX} {k j : Nat} {fF : List AD → Store → R AD} {x : Str} {p pos : Pos} {e : Expr} {es : List Expr} {fa : SA} {n : Nat} {c : Option (List (Str × Addr))}
theorem d_P (D : DefOk X.prog X.w X.K X.mg X.base w k x n fF) (hr : RoomG j X.A) (hj : k ≤ j) (tk : Takes X W) (hw : w.cl = none) (ha : PA X (e :: es) (liftA (w.at' c) W fa)) (hg : Gl X x := by rfl) (hdb : (x == ("__debug__" : Str)) = false := by decide)
    (he : starEach (e :: es) X.env = (false, eval e X.env) :: starEach es X.env := by rfl) (hpl : (backTo pos (starEach es X.env)).any (·.1) = false := by rfl) : PE X (.Call (.Name x p) (e :: es) [] pos) (lift (w.at' c) W (eCallP n fF fa)) := by
  obtain ⟨f, fd, ps, F, hm, hk, hb⟩ := D.ex
  exact r_callP hw F (hr.mono' hj) hg hm hk hb tk ha hdb he hpl
theorem d_R (D : DefOk X.prog X.w X.K X.mg X.base w k x n fF) (hr : RoomG j X.A) (hj : k ≤ j) (tk : Takes X W) (hw : w.cl = none) (ha : PA X (e :: es) (liftA (w.at' c) W fa)) (hg : Gl X x := by rfl) (hdb : (x == ("__debug__" : Str)) = false := by decide)
    (he : starEach (e :: es) X.env = (false, eval e X.env) :: starEach es X.env := by rfl) (hpl : (backTo pos (starEach es X.env)).any (·.1) = false := by rfl) : PE X (.Call (.Name x p) (e :: es) [] pos) (lift (w.at' c) W (eCallR n fF fa)) := by
  obtain ⟨f, fd, ps, F, hm, hk, hb⟩ := D.ex
  exact r_callR hw F (hr.mono' hj) hg hm hk hb tk ha hdb he hpl
theorem d_O (D : DefOk X.prog X.w X.K X.mg X.base w k x n fF) (hr : RoomG j X.A) (hj : k ≤ j) (tk : Takes X W) (hw : w.cl = none) (ha : PA X (e :: es) (liftA (w.at' c) W fa)) (hg : Gl X x := by rfl) (hdb : (x == ("__debug__" : Str)) = false := by decide)
    (he : starEach (e :: es) X.env = (false, eval e X.env) :: starEach es X.env := by rfl) (hpl : (backTo pos (starEach es X.env)).any (·.1) = false := by rfl) : PE X (.Call (.Name x p) (e :: es) [] pos) (lift (w.at' c) W (eCallO n fF fa)) := by
  obtain ⟨f, fd, ps, F, hm, hk, hb⟩ := D.ex
  exact r_callO hw F (hr.mono' hj) hg hm hk hb tk ha hdb he hpl
/-- which slots a lambda captures, by tables: j's frees, j's slots -/
def capF (l : List (Nat × List Nat)) : Nat → Option (List Nat) := fun j => l.lookup j
theorem d_L {l : List (Nat × List Nat)} (D : DefOk X.prog X.w X.K X.mg X.base w k x n fF) (hr : RoomG j X.A) (hj : k ≤ j) (tk : Takes X W) (hw : w.cl = none) (hfn : ∀ y, X.fn y = true)
    (hcap : X.Ok → ∀ q ∈ l, Caps X (cloFrom X.env.cells (w.lamd q.1).scope.names []) (w.lamd q.1).frees q.2) (hsub : ∀ q ∈ l, ∀ y, y ∈ (w.lamd q.1).scope.names → y.2 = .free → y.1 ∈ (w.lamd q.1).frees)
    (ha : PA X (e :: es) (liftA (w.at' (some X.env.cells)) W fa)) (hg : Gl X x := by rfl) (hdb : (x == ("__debug__" : Str)) = false := by decide)
    (he : starEach (e :: es) X.env = (false, eval e X.env) :: starEach es X.env := by rfl) (hpl : (backTo pos (starEach es X.env)).any (·.1) = false := by rfl) : PE X (.Call (.Name x p) (e :: es) [] pos) (lift (w.at' (some X.env.cells)) W (eCallL n fF (capF l) fa)) := by
  obtain ⟨f, fd, ps, F, hm, hk, hb⟩ := D.ex
  have mem : ∀ i is, capF l i = some is → (i, is) ∈ l := fun i is h => by
    unfold capF at h
    induction l with
    | nil => cases h
    | cons q r ih =>
      obtain ⟨a, b⟩ := q
      rw [List.lookup_cons] at h
      split at h
      · rename_i e2
        cases h
        rw [beq_iff_eq.mp e2]
        exact List.mem_cons_self
      · exact List.mem_cons_of_mem _ (ih (fun ok q hq => hcap ok q (List.mem_cons_of_mem _ hq)) (fun q hq => hsub q (List.mem_cons_of_mem _ hq)) h)
  refine r_callL hw F (hr.mono' hj) hg hm hk hb tk hfn (fun ok i is h => hcap ok (i, is) (mem i is h)) ⟨(l.flatMap fun q => (w.lamd q.1).frees), fun i is h y hy => List.mem_flatMap.mpr ⟨(i, is), mem i is h, hy⟩⟩ (fun i is h => hsub (i, is) (mem i is h)) ha hdb he hpl
theorem tkN {s : Shared} {H : Hp} {scope : Scope} {cenv : Env} {fp : List Addr} : Takes (X.blk s H scope cenv fp) WN := fun u s' ⟨a, B, sI, pins, σ, H, cls, d, e, I, nb, up, sky, na, os, ag, w⟩ => w.elim
theorem tkS {P : Program} {wd : World} {K : PySem.W.Frag} {mg : Str → Option Value} {base : Heap} {N : List Str} {qual : Str} {scope : Scope} {f : Addr} {cd : Value} {A : Around} {outer : List Env} {s : Shared} {H : Hp} {E : XK} : Takes (cxOf (L2.CX P wd) P wd K mg base N qual scope f cd A outer s H E) (fun cls d _ H' => E cls d H') :=
  takes_of rfl rfl rfl rfl
end
section
variable {P : Program} {wd : World} {K : PySem.W.Frag} {mg : Str → Option Value} {base : Heap} {w : Wo} {k : Nat} {x qual : Str} {params : Arguments} {body : List Stmt} {scope : Scope} {f : Addr} {N ps : List Str} {n m : Nat} {fb : SS}
theorem dok_D (F : ∃ fd, FunD K x qual params body scope [] [] f fd) (hm : mg x = some (.ref f)) (hbi : ∀ (kV doc pm : Value) (an : Option Addr) (cdv ct : Value) (us : List Value), us.length = ps.length → bindArgs (PySem.W.fnOf x qual params body scope .none kV doc pm an cdv ct) ⟨us, []⟩ = pure (ps.zip us))
    (S : FnScope N ps scope) (hn : N.length = n) (hp : ps.length = m)
    (hbody : ∀ (cdv : Value) (A : Around) (outer : List Env) (s : Shared) (H : Hp) (E : XK), RoomG k (A.deeper (envOfC qual scope s.heap.objs.size f cdv)) → PSs (cxOf (L2.CX P wd) P wd K mg base N qual scope f cdv A outer s H E) body (liftS w (fun cls d _ H' => E cls d H') fb)) :
    DefOk P wd K mg base w (k + 1) x m (fnF n fb) := by
  obtain ⟨fd, F⟩ := F
  exact ⟨f, fd, ps, fn_scD F S hn hp hbody, hm, F.kp, F.bindsN hbi⟩
theorem dok_L {pt : He.Defn} (F : ∃ fd, FunD K x qual params body scope [] [] (He.fAd K pt) fd) (hm : mg x = some (.ref (He.fAd K pt))) (hbi : ∀ (kV doc pm : Value) (an : Option Addr) (cdv ct : Value) (us : List Value), us.length = ps.length → bindArgs (PySem.W.fnOf x qual params body scope .none kV doc pm an cdv ct) ⟨us, []⟩ = pure (ps.zip us))
    (S : FnScope N ps scope) (hw : w.cl = none) (hn : N.length = n) (hp : ps.length = m)
    (hbody : ∀ (A : Around) (outer : List Env) (s : Shared) (H : Hp) (E : XK), RoomG k (A.deeper (envOfC qual scope s.heap.objs.size (He.fAd K pt) (.ref (He.codeOf K pt)))) →
      PSs (cxOf (L2.CX P wd) P wd K mg base N qual scope (He.fAd K pt) (.ref (He.codeOf K pt)) A outer s H E) body (liftS (w.at' (some (cxOf (L2.CX P wd) P wd K mg base N qual scope (He.fAd K pt) (.ref (He.codeOf K pt)) A outer s H E).env.cells)) (fun cls d _ H' => E cls d H') fb)) :
    DefOk P wd K mg base w (k + 1) x m (fnL n fb) := by
  obtain ⟨fd, F⟩ := F
  exact ⟨_, fd, ps, fn_scL F S hw hn hp hbody, hm, F.kp, F.bindsN hbi⟩
end
/-! ### the classes' facts, by lists of names -/
def clsOne (K : PySem.W.Frag) (used : List Str) (n : Str) : Bool := (Fa.glo n).ok K && (clsF K (ga K n) && (seenF K (ga K n) && (decide (PySem.W.exmOne K (.ref (ga K n)) (.ref (pD K)) = some true) && (decide (PySem.W.kitOne K (.ref (ga K n)) (.type "ValueError") = some true) &&
  used.all fun c => decide (PySem.W.kitOne K (.ref (ga K n)) (.ref (ga K c)) = some (decide (n = c)))))))
def tyOne (K : PySem.W.Frag) (used : List Str) (n : Nat) : Bool := decide (PySem.W.kitOne K (.type (nmC n)) (.type "ValueError") = some false) && used.all fun c => decide (PySem.W.kitOne K (.type (nmC n)) (.ref (ga K c)) = some false)
def tabsD (K : PySem.W.Frag) (tf : List Defn) : Bool := tf.all fun p => tf.all fun q => !decide ((cT K p).2 = (cT K q).2) || decide (p.1 = q.1)
def exB (file : Str) (cls used : List Str) (tf : List Defn) (K : PySem.W.Frag) : Bool := baseB K file && ((Fa.glo "PieceError").ok K && (cls.all (clsOne K used) && ((List.range 6).all (tyOne K used) && tabsD K tf)))
structure ExP (K : PySem.W.Frag) (file : Str) (cls used : List Str) (tf : List Defn) : Prop where
  base : baseB K file = true
  gp : (Fa.glo "PieceError").ok K = true
  g : ∀ n ∈ cls, (Fa.glo n).ok K = true
  ct : ∀ n ∈ cls, SCX.ClsT K (pD K) (pI K) (ga K n)
  xv : ∀ n ∈ cls, XvT K (ga K n)
  xi : ∀ n ∈ cls, XiT K (ga K n)
  ex : ∀ n ∈ cls, PySem.W.exmOne K (.ref (ga K n)) (.ref (pD K)) = some true
  ve : ∀ n ∈ cls, PySem.W.kitOne K (.ref (ga K n)) (.type "ValueError") = some true
  us : ∀ n ∈ cls, ∀ c ∈ used, PySem.W.kitOne K (.ref (ga K n)) (.ref (ga K c)) = some (decide (n = c))
  tv : ∀ n, n ≤ 5 → PySem.W.kitOne K (.type (nmC n)) (.type "ValueError") = some false
  tu : ∀ n, n ≤ 5 → ∀ c ∈ used, PySem.W.kitOne K (.type (nmC n)) (.ref (ga K c)) = some false
  td : ∀ p ∈ tf, ∀ q ∈ tf, (cT K p).2 = (cT K q).2 → p.1 = q.1
theorem exB_ok {K : PySem.W.Frag} {file : Str} {cls used : List Str} {tf : List Defn} (h : exB file cls used tf K = true) : ExP K file cls used tf := by
  obtain ⟨h1, h⟩ := ba h
  obtain ⟨h2, h⟩ := ba h
  obtain ⟨h3, h⟩ := ba h
  obtain ⟨h4, h5⟩ := ba h
  have one : ∀ n ∈ cls, (Fa.glo n).ok K = true ∧ SCX.ClsT K (pD K) (pI K) (ga K n) ∧ (XvT K (ga K n) ∧ XiT K (ga K n)) ∧ PySem.W.exmOne K (.ref (ga K n)) (.ref (pD K)) = some true ∧ PySem.W.kitOne K (.ref (ga K n)) (.type "ValueError") = some true ∧ ∀ c ∈ used, PySem.W.kitOne K (.ref (ga K n)) (.ref (ga K c)) = some (decide (n = c)) := fun n hn => by
    obtain ⟨a1, h⟩ := ba (List.all_eq_true.mp h3 n hn)
    obtain ⟨a2, h⟩ := ba h
    obtain ⟨a3, h⟩ := ba h
    obtain ⟨a4, h⟩ := ba h
    obtain ⟨a5, a6⟩ := ba h
    exact ⟨a1, clsF_ok a2, seenF_ok a3, of_decide_eq_true a4, of_decide_eq_true a5, fun c hc => of_decide_eq_true (List.all_eq_true.mp a6 c hc)⟩
  have two : ∀ n, n ≤ 5 → PySem.W.kitOne K (.type (nmC n)) (.type "ValueError") = some false ∧ ∀ c ∈ used, PySem.W.kitOne K (.type (nmC n)) (.ref (ga K c)) = some false := fun n hn => by
    obtain ⟨a1, a2⟩ := ba (List.all_eq_true.mp h4 n (List.mem_range.mpr (by omega)))
    exact ⟨of_decide_eq_true a1, fun c hc => of_decide_eq_true (List.all_eq_true.mp a2 c hc)⟩
  refine ⟨h1, h2, fun n hn => (one n hn).1, fun n hn => (one n hn).2.1, fun n hn => (one n hn).2.2.1.1, fun n hn => (one n hn).2.2.1.2, fun n hn => (one n hn).2.2.2.1, fun n hn => (one n hn).2.2.2.2.1, fun n hn => (one n hn).2.2.2.2.2, fun n hn => (two n hn).1, fun n hn => (two n hn).2, fun p hp q hq e => ?_⟩
  have := List.all_eq_true.mp (List.all_eq_true.mp h5 p hp) q hq
  rw [Bool.or_eq_true, Bool.not_eq_true', decide_eq_false_iff_not, decide_eq_true_eq] at this
  exact this.elim (fun z => absurd e z) id
def memS (l : List Str) (k : Str) : Bool := l.any fun c => decide (c = k)
theorem memS_ok {l : List Str} {k : Str} (h : memS l k = true) : k ∈ l := by
  unfold memS at h
  rw [List.any_eq_true] at h
  obtain ⟨c, h1, h2⟩ := h
  exact of_decide_eq_true h2 ▸ h1
def subV (cls : List Str) : Str → Option Bool := fun k => if memS cls k then some true else none
def subU (cls : List Str) (c : Str) : Str → Option Bool := fun k => if memS cls k then some (decide (k = c)) else none
/-! ### rules for exceptions over these facts -/
section
variable {X : Cx} {w : Wo} {W : WX} {file : Str} {cls used : List Str} {tf : List Defn}
theorem x_raise {cn : Str} {a : Expr} {fa : SE} {p pos pos2 : Pos} {k : Nat} (B : ExP X.K file cls used tf) (T : SCX.BaseT X.prog X.K X.mg (pD X.K) (pI X.K)) (hc : X.calm = true) (hm : cn ∈ cls) (hcl : w.cls cn = ga X.K cn) (hmg : X.mg cn = some (.ref (ga X.K cn))) (hr : RoomG k X.A) (tk : Takes X W) (ha : PE X a (lift w W fa)) (hg : Gl X cn := by rfl)
    (hdb : (cn == ("__debug__" : Str)) = false := by decide) (he : starEach (a :: []) X.env = (false, eval a X.env) :: starEach [] X.env := by rfl) (hpl : (backTo pos (starEach [] X.env)).any (·.1) = false := by rfl) :
    PS X (.Raise (some (.Call (.Name cn p) [a] [] pos)) none pos2) (liftS w W (sRaise cn fa)) :=
  rs_raise hc T (by rw [hcl]; exact B.ct cn hm) (by rw [hcl]; exact hmg) hr.toRoom tk ha hg hdb he hpl
theorem x_val {e : Expr} {f : SE} {pos : Pos} (B : ExP X.K file cls used tf) (hcl : ∀ c, w.cls c = ga X.K c) (he : PE X e (lift w W f)) (hb : attributeBase e "value" X.env (eval e X.env) = eval e X.env := by rfl) : PE X (.Attribute e "value" pos) (lift w W (eUn (uVal (memS cls)) f)) :=
  r_val (fun c hc => by rw [hcl]; exact B.xv c (memS_ok hc)) he hb
theorem x_isV {a : Expr} {x : Str} {fa : SE} {p p2 pos : Pos} (B : ExP X.K file cls used tf) (hcl : ∀ c, w.cls c = ga X.K c) (gT : Gl X "ValueError") (mT : X.mg "ValueError" = none) (hg : Gl X x) (hm : X.mg x = none) (hv : bootBuiltins x = some (.builtin "isinstance")) (ha : PE X a (lift w W fa)) (hK : w.K = X.K := by rfl) (hn : x ≠ "__name__" := by decide) (hdb : (x == ("__debug__" : Str)) = false := by decide)
    (h1 : starEach [a, .Name "ValueError" p2] X.env = (false, eval a X.env) :: starEach [.Name "ValueError" p2] X.env := by rfl) (h2 : starEach [.Name "ValueError" p2] X.env = (false, eval (.Name "ValueError" p2) X.env) :: starEach [] X.env := by rfl) (hpl : (backTo pos (starEach [.Name "ValueError" p2] X.env)).any (·.1) = false := by rfl) :
    PE X (.Call (.Name x p) [a, .Name "ValueError" p2] [] pos) (lift w W (eUn (uIsX (subV cls)) fa)) :=
  r_isX (cv := .type "ValueError") (.ty "ValueError") (pe_bltn gT mT (by decide +kernel) (v := .ty "ValueError") rfl (by decide) (by decide)) (fun k b h => by
    unfold subV at h
    split at h
    · rename_i hk
      cases h
      rw [hcl]
      exact ⟨B.xi k (memS_ok hk), B.ve k (memS_ok hk)⟩
    · cases h) (fun n hn => B.tv n hn) hg hm hv ha hK hn hdb h1 h2 hpl
theorem x_isU {c : Str} {a : Expr} {x : Str} {fa : SE} {p p2 pos : Pos} (B : ExP X.K file cls used tf) (hcl : ∀ c, w.cls c = ga X.K c) (hc : c ∈ used) (gT : Gl X c) (mT : X.mg c = some (.ref (ga X.K c))) (hg : Gl X x) (hm : X.mg x = none) (hv : bootBuiltins x = some (.builtin "isinstance")) (ha : PE X a (lift w W fa)) (hdc : (c == ("__debug__" : Str)) = false := by decide) (hK : w.K = X.K := by rfl) (hn : x ≠ "__name__" := by decide) (hdb : (x == ("__debug__" : Str)) = false := by decide)
    (h1 : starEach [a, .Name c p2] X.env = (false, eval a X.env) :: starEach [.Name c p2] X.env := by rfl) (h2 : starEach [.Name c p2] X.env = (false, eval (.Name c p2) X.env) :: starEach [] X.env := by rfl) (hpl : (backTo pos (starEach [.Name c p2] X.env)).any (·.1) = false := by rfl) :
    PE X (.Call (.Name x p) [a, .Name c p2] [] pos) (lift w W (eUn (uIsX (subU cls c)) fa)) :=
  r_isX (cv := .ref (ga X.K c)) (.own _) (pe_glob gT mT (v := .ref (ga X.K c)) rfl hdc) (fun k b h => by
    unfold subU at h
    split at h
    · rename_i hk
      cases h
      rw [hcl]
      exact ⟨B.xi k (memS_ok hk), B.us k (memS_ok hk) c hc⟩
    · cases h) (fun n hn => B.tu n hn c hc) hg hm hv ha hK hn hdb h1 h2 hpl
end
/-! ### lambdas of the text -/
def lamsE : Nat → Expr → List (Arguments × Expr × Scope)
  | 0, _ => []
  | n + 1, e => match e with
    | .Lambda a b s _ => [(a, b, s)]
    | .List es _ => es.flatMap (lamsE n)
    | .Call _ es _ _ => es.flatMap (lamsE n)
    | .UnaryOp _ e _ => lamsE n e
    | .Tuple es _ _ => es.flatMap (lamsE n)
    | _ => []
def lamsS : Stmt → List (Arguments × Expr × Scope)
  | .Assign _ e _ => lamsE 5 e
  | .Expr e _ => lamsE 5 e
  | .If c _ _ _ => lamsE 5 c
  | .Return (some e) _ => lamsE 5 e
  | _ => []
def lamsD (s : Stmt) : List (Arguments × Expr × Scope) := (defBody s).flatMap lamsS
def lamQ (q : Str) : Str := (envOfC q { kind := .function, names := [], isGenerator := false, isCoroutine := false, more := [] } 0 0 .none).qual ++ "<lambda>"
def lamM (s : Stmt) (q : Str) (i : Nat) (frees : List Str) : LamD := match (lamsD s)[i]? with
  | some (a, b, c) => ⟨lamQ q, a, b, c, frees⟩
  | none => ⟨lamQ q, SCX.iA ⟨0, 0, 0, 0⟩ ⟨0, 0, 0, 0⟩, .Name "" ⟨0, 0, 0, 0⟩, SCX.iS, []⟩
def tabsT (K : PySem.W.Frag) (tf : List Defn) : List (Addr × Str) := tf.map fun p => ((cT K p).2, lamQ p.1)
theorem tabsT_u {K : PySem.W.Frag} {file : Str} {cls used : List Str} {tf : List Defn} (B : ExP K file cls used tf) {p : Defn} (hp : p ∈ tf) : ∀ t ∈ tabsT K tf, t.1 = (cT K p).2 → t.2 = lamQ p.1 := fun t ht e => by
  obtain ⟨q, hq, rfl⟩ := List.mem_map.mp ht
  show lamQ q.1 = lamQ p.1
  rw [B.td q hq p hp e]
theorem tabsT_m {K : PySem.W.Frag} {tf : List Defn} {p : Defn} (hp : p ∈ tf) : ((cT K p).2, lamQ p.1) ∈ tabsT K tf := List.mem_map.mpr ⟨p, hp, rfl⟩
def freeC (sc scope : Scope) : Bool := scope.names.all fun y => match y.2 with
  | .free => (match sc.names.lookup y.1 with
    | some .cell => true
    | some .free => true
    | _ => false)
  | _ => true
theorem freeC_ok {sc scope : Scope} (h : freeC sc scope = true) : ∀ y ∈ scope.names, y.2 = .free → sc.names.lookup y.1 = some .cell ∨ sc.names.lookup y.1 = some .free := fun y hy e => by
  have q := List.all_eq_true.mp h y hy
  simp only [e] at q
  split at q
  · exact .inl (by assumption)
  · exact .inr (by assumption)
  · cases q
def capC (N : List Str) (sc : Scope) (L : LamD) (js : List Nat) : Bool := freeC sc L.scope && ((L.frees.all fun y => decide ((y, NameKind.free) ∈ L.scope.names)) && (decide (js.map (fun j => N[j]?) = L.frees.map some) && L.scope.names.all fun y => match y.2 with
  | .free => decide (y.1 ∈ L.frees)
  | _ => true))
theorem capC_caps {X : Cx} {L : LamD} {js : List Nat} (h : capC X.N X.env.scope L js = true) (ok : X.Ok) : Caps X (cloFrom X.env.cells L.scope.names []) L.frees js := by
  obtain ⟨h1, h⟩ := ba h
  obtain ⟨h2, h⟩ := ba h
  obtain ⟨h3, h4⟩ := ba h
  exact Caps.made ok (freeC_ok h1) (fun y hy => of_decide_eq_true (List.all_eq_true.mp h2 y hy)) (of_decide_eq_true h3)
theorem capC_sub {N : List Str} {sc : Scope} {L : LamD} {js : List Nat} (h : capC N sc L js = true) : ∀ y, y ∈ L.scope.names → y.2 = .free → y.1 ∈ L.frees := fun y hy e => by
  obtain ⟨h1, h⟩ := ba h
  obtain ⟨h2, h⟩ := ba h
  obtain ⟨h3, h4⟩ := ba h
  have q := List.all_eq_true.mp h4 y hy
  simp only [e] at q
  exact of_decide_eq_true q
section
variable {X : Cx} {w : Wo} {W : WX} {k j : Nat} {fF : List AD → Store → R AD} {x : Str} {p pos : Pos} {e : Expr} {es : List Expr} {fa : SA} {n : Nat}
/-- a call that is handed lambdas -/
theorem d_C {l : List (Nat × List Nat)} (D : DefOk X.prog X.w X.K X.mg X.base w k x n fF) (hr : RoomG j X.A) (hj : k ≤ j) (tk : Takes X W) (hw : w.cl = none) (hfn : ∀ y, X.fn y = true) (hC : (l.all fun q => capC X.N X.env.scope (w.lamd q.1) q.2) = true)
    (ha : PA X (e :: es) (liftA (w.at' (some X.env.cells)) W fa)) (hg : Gl X x := by rfl) (hdb : (x == ("__debug__" : Str)) = false := by decide)
    (he : starEach (e :: es) X.env = (false, eval e X.env) :: starEach es X.env := by rfl) (hpl : (backTo pos (starEach es X.env)).any (·.1) = false := by rfl) : PE X (.Call (.Name x p) (e :: es) [] pos) (lift (w.at' (some X.env.cells)) W (eCallL n fF (capF l) fa)) :=
  d_L D hr hj tk hw hfn (fun ok q hq => capC_caps (List.all_eq_true.mp hC q hq) ok) (fun q hq => capC_sub (List.all_eq_true.mp hC q hq)) ha hg hdb he hpl
theorem x_lam {pt : Defn} {tf : List Defn} {file : Str} {cls used : List Str} {params : Arguments} {body : Expr} {scope : Scope} {pos : Pos} {i : Nat} (B : ExP X.K file cls used tf) (hp : pt ∈ tf) (hT : w.T = tabsT X.K tf) (hw : w.cl = some X.env.cells) (TB : ∀ p ∈ tf, TabB X.base X.mg (cT X.K p).1 (cT X.K p).2) (hcode : X.env.code = .ref (codeOf X.K pt)) (hq : X.env.qual ++ "<lambda>" = lamQ pt.1)
    (hd : w.lamd i = ⟨lamQ pt.1, params, body, scope, (w.lamd i).frees⟩) (hdef : defaultsOf params X.env = ([], [])) (hf : freeC X.env.scope (w.lamd i).scope = true) : PE X (.Lambda params body scope pos) (lift w W (eLam i)) :=
  r_lam (c := codeOf X.K pt) (P := tabOf X.K (codeOf X.K pt)) (frees := (w.lamd i).frees) (j := i) hw (by rw [hq]; exact hd) (TB pt hp) hcode (by rw [hT, hq]; exact tabsT_m hp) (by rw [hT, hq]; exact tabsT_u B hp) hdef (by
    have q := freeC_ok hf
    rw [hd] at q
    exact q)
end
theorem LamOk.mono {P : Program} {wd : World} {K : PySem.W.Frag} {mg : Str → Option Value} {base : Heap} {w : Wo} {k k' j np : Nat} {f : List AD → Store → R AD} (L : LamOk P wd K mg base w k j np f) (h : k ≤ k') : LamOk P wd K mg base w k' j np f :=
  ⟨fun A outer s H us vs ws Q E fa c' cl pm ctv hr => L.run A outer s H us vs ws Q E fa c' cl pm ctv (hr.mono' h)⟩
theorem tkL {P : Program} {wd : World} {K : PySem.W.Frag} {mg : Str → Option Value} {base : Heap} {N : List Str} {F : NF} {f : Addr} {A : Around} {outer : List Env} {s : Shared} {H : Hp} {E : XK} : Takes (ncx (L2.CX P wd) P wd K mg base N F f A outer s H E) (fun cls d _ H' => E cls d H') :=
  takes_of rfl rfl rfl rfl
theorem poS {P : Program} {wd : World} {K : PySem.W.Frag} {mg : Str → Option Value} {base : Heap} {N : List Str} {qual : Str} {scope : Scope} {f : Addr} {cd : Value} {A : Around} {outer : List Env} {s : Shared} {H : Hp} {E : XK} : PassesOwn (model P wd) (cxOf (L2.CX P wd) P wd K mg base N qual scope f cd A outer s H E).A (cxOf (L2.CX P wd) P wd K mg base N qual scope f cd A outer s H E).env (cxOf (L2.CX P wd) P wd K mg base N qual scope f cd A outer s H E).xe :=
  passes_of rfl
theorem plain_SetD (fo fi : SE) : Plain (gSetD fo fi) := fun v s μ => by
  unfold gSetD R.st
  cases fo s μ with
  | ok x μ1 =>
    dsimp only
    cases fi s μ1 with
    | ok y μ2 =>
      dsimp only
      cases aSetD x y v μ2 with
      | some μ3 => exact .inl ⟨_, _, rfl⟩
      | none => exact .inr (.inr rfl)
    | exc c d μ2 => exact .inr (.inl ⟨_, _, _, _, rfl⟩)
    | bad => exact .inr (.inr rfl)
  | exc c d μ1 => exact .inr (.inl ⟨_, _, _, _, rfl⟩)
  | bad => exact .inr (.inr rfl)
theorem RoomG.u64 {k : Nat} {A : Around} (r : RoomG k A) : A.units + 64 < cLine := r.toRoom.units
theorem RoomG.u16 {k : Nat} {A : Around} (r : RoomG k A) : A.units + 16 < cLine := by have := r.toRoom.units; omega
end SC

set_option Elab.async false
set_option linter.all false
set_option maxRecDepth 100000
set_option maxHeartbeats 2000000
/-! the end of a law: over a head by facts, from the plain law -/
namespace SC
open PySem PySem.Spec PyProof.Rows L2 LamX
theorem walk_GE {l : PySem.W.OpenLaw} {n k : Nat} {q : Program} {loose : List Str} {XP : (Str → Option Value) → Heap → Prop} {YP : World → Heap → Prop} {d : DefRec} {CX : World → CXT} {x : Str}
    (hn : l.most = some n) (hn2 : n ≤ sizeLine) (hdf : d.params.defaults = []) (hr : RoomG k callerA)
    (F : ∀ (w : World) (mg : Str → Option Value) (fa : Addr) (h : Heap), YP w h → h.Ns mainGlobals mg → mg d.name = some (.ref fa) → ∃ K : PySem.W.Frag, K.In h ∧ LawAtG l w K (CX w) k n x mg fa h)
    (hCX : ∀ (w : World) (H : Hp) (s : Shared) (e : Value) (s' : Shared), CX w [] H s (fun _ _ _ => False) e s' → False) :
    PySem.W.WalkO q loose XP YP l.row.toRowW d [] (fun f vs => PySem.call f vs) := by
  refine Att.attach_callB hn hdf fun w s₀ s₁ mg mb fa o pm cd doc a vs ns G Y ho hd hcd hmg hobj hints hlen hbits hg => ?_
  obtain ⟨K, KX, fd, cs, sp, hT, nT, C, hb, hsp, hF⟩ := F w mg fa _ Y G.T.g hmg
  exact law_callG KX G.T.g G.T.b G.T.builtins G.T.nolimit hg hT nT C G.T.bmain hobj hints (Nat.le_trans hlen hn2) hr hF hb (fun H hH hS => hsp H a ns hlen hbits hH hS) fun H e s' => hCX w H s₁ e s'
theorem law_sp {w : Wo} {f : List AD → Store → R AD} {cs : List (Addr × Addr)} {H : Hp} {a : Addr} {ns : List Int} (hT : ∀ p ∈ w.T, ∃ q ∈ cs, p.1 = q.2) (ht : ∀ p ∈ cs, H p.2 = some (.tbl #[])) (hS : SqL w.K H a (ns.map V.int))
    (hf : ∃ μ, f [.scr (ns.map AD.int)] [] = .ok (.bl true) μ) : spF w f 1 [.ref a] H (fun v _ => v = .bl true) (fun _ _ _ => False) := by
  obtain ⟨μ, hf⟩ := hf
  let B : Hp := fun b => if b ∈ w.T.map (·.1) then none else H b
  have isT : ∀ b, b ∈ w.T.map (·.1) → H b = some (.tbl #[]) := fun b hb => by
    obtain ⟨p, hp, e⟩ := List.mem_map.mp hb
    obtain ⟨q, hq, e2⟩ := hT p hp
    rw [← e, e2]
    exact ht q hq
  have bN : ∀ b, b ∉ w.T.map (·.1) → B b = H b := fun b h => if_neg h
  have rl : Rl w [] B [] H := by
    refine ⟨fun b o h => ?_, List.nodup_nil, fun b z => absurd z (by simp), fun n b h => by simp at h, rfl, fun p hp => ⟨by simp, ?_, #[], ?_, ?_, ?_⟩⟩
    · by_cases hb : b ∈ w.T.map (·.1)
      · have : B b = none := if_pos hb
        rw [this] at h; cases h
      · rw [bN b hb] at h; exact h
    · exact if_pos (List.mem_map.mpr ⟨p, hp, rfl⟩)
    · exact isT _ (List.mem_map.mpr ⟨p, hp, rfl⟩)
    · first | exact TriplesOk.nil | trivial | simp [TriplesOk]
    · intro pos cv h
      simp [codeAmong] at h
  have aT : ∀ u, H a = some u → (∀ q, u ≠ .tbl q) → B a = some u := fun u e n => by
    rw [bN a (fun z => by rw [isT a z] at e; exact n _ (Option.some.inj e).symm)]
    exact e
  have hS' : SqL w.K B a (ns.map V.int) := by
    rcases hS with (h | ⟨o, h⟩) | h
    · exact .inl (.inl (aT _ h fun q z => by cases z))
    · exact .inl (.inr ⟨o, aT _ h fun q z => by cases z⟩)
    · exact .inr h
  refine ⟨rfl, [], B, [.scr (ns.map AD.int)], [], rl, .cons (.scr hS' (reps_int ns)) .nil, ?_⟩
  rw [hf]
  intro ρ' B' H' v l r p
  cases p
  rfl
end SC

set_option Elab.async false
set_option linter.all false
set_option maxRecDepth 100000
set_option maxHeartbeats 2000000
/-! the draws of a law: pots, digits, cells -/
namespace SC
open PySem PySem.Spec PyProof.Rows L2
def bTake : SS := (sSeq (sIf (tV (eOp aGt (eOp aIxD (eVar 0) (eC (.int 0))) (eC (.int 0)))) (sSeq (sSet 2 (eOp aMod (eB (b1 gInt) (aCons (eOp aIxD (eVar 0) (eC (.int 0))) aNil)) (eVar 1))) (sSeq (sAsg (gSetD (eVar 0) (eC (.int 0))) (eOp aFdv (eOp aIxD (eVar 0) (eC (.int 0))) (eVar 1))) (sRet (eVar 2)))) sPass) (sSeq (sAsg (gSetD (eVar 0) (eC (.int 2))) (eOp aAdd (eOp aIxD (eVar 0) (eC (.int 2))) (eC (.int 1)))) (sSeq (sSet 3 (eOp aIxD (eLst (aCons (eC (.int 2147483647)) (aCons (eC (.int 2147483629)) (aCons (eC (.int 2147483587)) (aCons (eC (.int 2147483579)) (aCons (eC (.int 2147483563)) aNil)))))) (eOp aMod (eB (b1 gInt) (aCons (eOp aIxD (eVar 0) (eC (.int 2))) aNil)) (eC (.int 5))))) (sSeq (sSet 4 (eOp aMod (eB (b1 gInt) (aCons (eOp aPow (eB (b1 gInt) (aCons (eOp aAdd (eOp aAdd (eOp aIxD (eVar 0) (eC (.int 1))) (eOp aMul (eOp aMul (eC (.int 93497)) (eOp aIxD (eVar 0) (eC (.int 2)))) (eOp aIxD (eVar 0) (eC (.int 2))))) (eC (.int 3119))) aNil)) (eC (.int 3))) aNil)) (eVar 3))) (sSeq (sSet 4 (eOp aMod (eB (b1 gInt) (aCons (eOp aMul (eVar 4) (eOp aAdd (eOp aMod (eB (b1 gInt) (aCons (eVar 4) aNil)) (eC (.int 12409))) (eOp aMul (eC (.int 311)) (eOp aIxD (eVar 0) (eC (.int 2)))))) aNil)) (eC (.int 2305843009213693907)))) (sRet (eOp aMod (eB (b1 gInt) (aCons (eOp aFdv (eVar 4) (eC (.int 197))) aNil)) (eVar 1))))))))
def fTake : List AD → Store → R AD := fnF 5 bTake
def bOf : SS := (sRet (eOp aIxD (eVar 1) (eCallR 2 fTake (aCons (eVar 0) (aCons (eB (b1 gLen) (aCons (eVar 1) aNil)) aNil)))))
def fOf : List AD → Store → R AD := fnF 2 bOf
def bCells : SS := (sRet (eLr1 (eB (bb gMax) (aCons (eC (.int 1)) (aCons (eB (bb gMin) (aCons (eVar 1) (aCons (eB (b1 gLen) (aCons (eVar 0) aNil)) aNil))) aNil)))))
def fCells : List AD → Store → R AD := fnF 2 bCells
def bPot : SS := (sSeq (sSet 2 (eIf (tV (eOp aLt (eVar 1) (eB (b1 gLen) (aCons (eVar 0) aNil)))) (eOp aIxD (eVar 0) (eVar 1)) (eOp aAdd (eOp aAdd (eOp aMod (eB (b1 gInt) (aCons (eB (b1 gSum) (aCons (eSl (eVar 0) oNo (oSo (eC (.int 1)))) aNil)) aNil)) (eC (.int 1000117))) (eOp aMul (eC (.int 4723)) (eVar 1))) (eC (.int 3119))))) (sSeq (sSet 3 (eOp aMul (eOp aMod (eB (b1 gInt) (aCons (eB (b1 gAbs) (aCons (eVar 2) aNil)) aNil)) (eOp aPow (eOp aPow (eC (.int 10)) (eC (.int 60))) (eC (.int 5)))) (eB (b1 gInt) (aCons (eOp aGe (eB (b1 gAbs) (aCons (eVar 2) aNil)) (eOp aPow (eC (.int 10)) (eC (.int 18)))) aNil)))) (sSeq (sSet 4 (eOp aMod (eB (b1 gInt) (aCons (eVar 2) aNil)) (eC (.int 2305843009213693951)))) (sRet (eOwn (aCons (eVar 3) (aCons (eOp aMod (eB (b1 gInt) (aCons (eOp aAdd (eOp aAdd (eOp aMul (eVar 4) (eC (.int 80051))) (eOp aMul (eOp aMul (eC (.int 9859)) (eVar 1)) (eVar 1))) (eC (.int 2341))) aNil)) (eC (.int 2305843009213693921))) (aCons (eC (.int 0)) aNil))))))))
def fPot : List AD → Store → R AD := fnF 5 bPot

/-! ### steps -/
section
variable {f g : SS} {s s1 : Slots} {μ μ1 μ2 : Store} {e e1 e2 : SE} {d x y : AD} {o : AD → AD → Store → R AD} {i : Nat} {c : ST} {b : Bool} {u : AD → Store → R AD}
theorem ev_seq (h : f s μ = .nx s1 μ1) : sSeq f g s μ = g s1 μ1 := by unfold sSeq; rw [h]
theorem ev_seq_rt (h : f s μ = .rt d μ1) : sSeq f g s μ = .rt d μ1 := by unfold sSeq; rw [h]
theorem ev_set (h : e s μ = .ok d μ1) : sSet i e s μ = .nx (s.set i (some d)) μ1 := by unfold sSet; rw [h]; rfl
theorem ev_ret (h : e s μ = .ok d μ1) : sRet e s μ = .rt d μ1 := by unfold sRet; rw [h]; rfl
theorem ev_op (h1 : e1 s μ = .ok x μ1) (h2 : e2 s μ1 = .ok y μ2) : eOp o e1 e2 s μ = o x y μ2 := by unfold eOp; rw [h1]; show R.bind (e2 s μ1) _ = _; rw [h2]; rfl
theorem ev_b1 (h : e s μ = .ok x μ1) : eB (b1 u) (aCons e aNil) s μ = u x μ1 := by unfold eB aCons; rw [h]; rfl
theorem ev_if (h : c s μ = .ok b μ1) : sIf c f g s μ = if b then f s μ1 else g s μ1 := by unfold sIf; rw [h]; rfl
theorem ev_asg {tg : AD → SS} (h : e s μ = .ok d μ1) : sAsg tg e s μ = tg d s μ1 := by unfold sAsg; rw [h]; rfl
theorem ev_un {g : AD → Store → R AD} (h : e s μ = .ok x μ1) : eUn g e s μ = g x μ1 := by unfold eUn; rw [h]; rfl
end
theorem mod_ok {i j : Int} {μ : Store} (h : 0 < j) : aMod (.int i) (.int j) μ = .ok (.int (i % j)) μ := by unfold aMod chk; simp [h]
theorem fdv_ok {i j : Int} {μ : Store} (h : 0 < j) (h2 : j.natAbs < 2 ^ 2000) : aFdv (.int i) (.int j) μ = .ok (.int (i / j)) μ := by
  show chk (decide (0 < j) && decide (j.natAbs < 2 ^ 2000)) (R.ok (AD.int (i / j)) μ) = _
  rw [decide_eq_true h, decide_eq_true h2]; rfl
theorem mul_ok {i j : Int} {μ : Store} (h : i.natAbs < 2 ^ 4000) (h2 : j.natAbs < 2 ^ 4000) : aMul (.int i) (.int j) μ = .ok (.int (i * j)) μ := by
  show chk (decide (i.natAbs < 2 ^ 4000) && decide (j.natAbs < 2 ^ 4000)) (R.ok (AD.int (i * j)) μ) = _
  rw [decide_eq_true h, decide_eq_true h2]; rfl
theorem pow_ok {i j : Int} {μ : Store} (h0 : 0 ≤ j) (h1 : j ≤ 1000) (h : i.natAbs < 2 ^ 1000) : aPow (.int i) (.int j) μ = .ok (.int (i ^ j.toNat)) μ := by
  show chk (decide (0 ≤ j) && decide (j ≤ 1000) && decide (i.natAbs < 2 ^ 1000)) (R.ok (AD.int (i ^ j.toNat)) μ) = _
  rw [decide_eq_true h, decide_eq_true h0, decide_eq_true h1]; rfl
theorem two_mul {a b m n : Nat} (h1 : a < 2 ^ m) (h2 : b < 2 ^ n) : a * b < 2 ^ (m + n) := by
  rw [Nat.pow_add]
  exact Nat.mul_lt_mul'' h1 h2
theorem up {a m n : Nat} (h : a < 2 ^ m) (k : m ≤ n) : a < 2 ^ n := Nat.lt_of_lt_of_le h (Nat.pow_le_pow_right (by decide) k)
theorem two_add {a b m : Nat} (h1 : a < 2 ^ m) (h2 : b < 2 ^ m) : a + b < 2 ^ (m + 1) := by rw [Nat.pow_succ]; omega
theorem abs_mul {i j : Int} {m n : Nat} (h1 : i.natAbs < 2 ^ m) (h2 : j.natAbs < 2 ^ n) : (i * j).natAbs < 2 ^ (m + n) := by rw [Int.natAbs_mul]; exact two_mul h1 h2
theorem abs_add {i j : Int} {m : Nat} (h1 : i.natAbs < 2 ^ m) (h2 : j.natAbs < 2 ^ m) : (i + j).natAbs < 2 ^ (m + 1) := Nat.lt_of_le_of_lt (Int.natAbs_add_le i j) (two_add h1 h2)
theorem abs_mod {i j : Int} {m : Nat} (h : 0 < j) (h1 : j.natAbs ≤ 2 ^ m) : (i % j).natAbs < 2 ^ m := by
  have a := Int.emod_nonneg i (Int.ne_of_gt h)
  have b := Int.emod_lt_of_pos i h
  omega
/-! ### a pot -/
structure Pot (n : Nat) (a b c : Int) : Prop where
  b : b.natAbs < 2 ^ 62
  c0 : 0 ≤ c
  c1 : c ≤ n
def potO (a b c : Int) : AO := .lst [.int a, .int b, .int c]
def tkS0 (u : Int) : Slots := [some (.ref 0), some (.int u), none, none, none]
theorem c_abs {n : Nat} {a b c : Int} (p : Pot n a b c) (hn : n < 1000) : c.natAbs < 2 ^ 31 := by have := p.c0; have := p.c1; omega
theorem prime_at (c : Int) (h0 : 0 ≤ c) (s : Slots) (μ : Store) (hs : s[0]? = some (some (.ref 0))) (a b : Int) (hm : μ = [potO a b c]) : ∃ p : Int, 0 < p ∧ p.natAbs ≤ 2 ^ 31 ∧
    (eOp aIxD (eLst (aCons (eC (.int 2147483647)) (aCons (eC (.int 2147483629)) (aCons (eC (.int 2147483587)) (aCons (eC (.int 2147483579)) (aCons (eC (.int 2147483563)) aNil)))))) (eOp aMod (eB (b1 gInt) (aCons (eOp aIxD (eVar 0) (eC (.int 2))) aNil)) (eC (.int 5)))) s μ = .ok (.int p) μ := by
  subst hm
  have e0 : eVar 0 s [potO a b c] = .ok (.ref 0) [potO a b c] := by unfold eVar; rw [hs]
  have e1 : (eOp aIxD (eVar 0) (eC (.int 2))) s [potO a b c] = .ok (.int c) [potO a b c] := (ev_op e0 rfl).trans rfl
  have e2 : (eOp aMod (eB (b1 gInt) (aCons (eOp aIxD (eVar 0) (eC (.int 2))) aNil)) (eC (.int 5))) s [potO a b c] = .ok (.int (c % 5)) [potO a b c] := (ev_op (x := .int c) (y := .int 5) (e2 := eC (.int 5)) ((ev_b1 (u := gInt) e1).trans rfl) rfl).trans (mod_ok (by decide))
  have a1 := Int.emod_nonneg c (show (5 : Int) ≠ 0 by decide)
  have a2 := Int.emod_lt_of_pos c (show (0 : Int) < 5 by decide)
  have key : ∀ p : Int, aIxD (.lst [.int 2147483647, .int 2147483629, .int 2147483587, .int 2147483579, .int 2147483563]) (.int (c % 5)) [potO a b c] = .ok (.int p) [potO a b c] → (eOp aIxD (eLst (aCons (eC (.int 2147483647)) (aCons (eC (.int 2147483629)) (aCons (eC (.int 2147483587)) (aCons (eC (.int 2147483579)) (aCons (eC (.int 2147483563)) aNil)))))) (eOp aMod (eB (b1 gInt) (aCons (eOp aIxD (eVar 0) (eC (.int 2))) aNil)) (eC (.int 5)))) s [potO a b c] = .ok (.int p) [potO a b c] := fun p h => (ev_op rfl e2).trans h
  generalize c % 5 = r at *
  have : r = 0 ∨ r = 1 ∨ r = 2 ∨ r = 3 ∨ r = 4 := by omega
  rcases this with rfl | rfl | rfl | rfl | rfl
  · exact ⟨_, by decide, by decide, key _ rfl⟩
  · exact ⟨_, by decide, by decide, key _ rfl⟩
  · exact ⟨_, by decide, by decide, key _ rfl⟩
  · exact ⟨_, by decide, by decide, key _ rfl⟩
  · exact ⟨_, by decide, by decide, key _ rfl⟩
theorem take_ok {n : Nat} {a b c u : Int} (p : Pot n a b c) (hn : n < 900) (hu : 0 < u) (hu2 : u.natAbs < 2 ^ 100) : ∃ d a' c' : Int, 0 ≤ d ∧ d < u ∧ Pot (n + 1) a' b c' ∧ fTake [.ref 0, .int u] [potO a b c] = .ok (.int d) [potO a' b c'] := by
  by_cases h : 0 < a
  · refine ⟨a % u, a / u, c, Int.emod_nonneg _ (Int.ne_of_gt hu), Int.emod_lt_of_pos _ hu, ⟨p.b, p.c0, by have := p.c1; omega⟩, ?_⟩
    have e1 : (eOp aMod (eB (b1 gInt) (aCons (eOp aIxD (eVar 0) (eC (.int 0))) aNil)) (eVar 1)) (tkS0 u) [potO a b c] = .ok (.int (a % u)) [potO a b c] := (ev_op (x := .int a) (y := .int u) rfl rfl).trans (mod_ok hu)
    have e2 : (eOp aFdv (eOp aIxD (eVar 0) (eC (.int 0))) (eVar 1)) [some (.ref 0), some (.int u), some (.int (a % u)), none, none] [potO a b c] = .ok (.int (a / u)) [potO a b c] := (ev_op (x := .int a) (y := .int u) rfl rfl).trans (fdv_ok hu (up hu2 (by decide)))
    have k : bTake (tkS0 u) [potO a b c] = .rt (.int (a % u)) [potO (a / u) b c] := by
      unfold bTake
      refine ev_seq_rt ((ev_if (b := decide (0 < a)) (μ1 := [potO a b c]) rfl).trans ?_)
      rw [decide_eq_true h, if_pos rfl]
      refine (ev_seq (ev_set e1)).trans ?_
      refine (ev_seq ((ev_asg (s := [some (.ref 0), some (.int u), some (.int (a % u)), none, none]) e2).trans (rfl : _ = SR.nx [some (.ref 0), some (.int u), some (.int (a % u)), none, none] [potO (a / u) b c]))).trans ?_
      rfl
    show R.ofS (bTake (tkS0 u) [potO a b c]) = _
    rw [k]
    rfl
  · have hc := c_abs p (by omega)
    have c1 : 0 ≤ c + 1 := by have := p.c0; omega
    have hc1 : (c + 1).natAbs < 2 ^ 31 := by have := p.c0; have := p.c1; omega
    generalize hC : c + 1 = C at c1 hc1
    obtain ⟨q, q0, q1, q2⟩ := prime_at C c1 (tkS0 u) [potO a b C] rfl a b rfl
    obtain ⟨S1, hS1⟩ : ∃ S1 : Slots, S1 = [some (.ref 0), some (.int u), none, some (.int q), none] := ⟨_, rfl⟩
    have v0 : (eOp aIxD (eVar 0) (eC (.int 2))) S1 [potO a b C] = .ok (.int C) [potO a b C] := by subst hS1; rfl
    have v1 : (eOp aIxD (eVar 0) (eC (.int 1))) S1 [potO a b C] = .ok (.int b) [potO a b C] := by subst hS1; rfl
    have m1 := (ev_op (o := aMul) (e1 := eC (.int 93497)) (x := .int 93497) rfl v0).trans (mul_ok (i := 93497) (by decide +kernel) (up hc1 (by decide)))
    have b1' : (93497 * C : Int).natAbs < 2 ^ (17 + 31) := abs_mul (by decide) hc1
    have m2 := (ev_op (o := aMul) m1 v0).trans (mul_ok (up b1' (by decide)) (up hc1 (by decide)))
    have b2' : (93497 * C * C : Int).natAbs < 2 ^ (17 + 31 + 31) := abs_mul b1' hc1
    have a1 := (ev_op (o := aAdd) v1 m2)
    have b3' : (b + 93497 * C * C : Int).natAbs < 2 ^ (17 + 31 + 31 + 1) := abs_add (up p.b (by decide)) b2'
    have a2 := (ev_op (o := aAdd) (e2 := eC (.int 3119)) (y := .int 3119) (a1.trans (rfl : _ = R.ok (AD.int (b + 93497 * C * C)) [potO a b C])) rfl)
    have b4' : (b + 93497 * C * C + 3119 : Int).natAbs < 2 ^ (17 + 31 + 31 + 1 + 1) := abs_add b3' (by decide)
    generalize hM : b + 93497 * C * C + 3119 = M at b4'
    have a3 : _ = R.ok (AD.int M) [potO a b C] := a2.trans (by rw [← hM]; rfl)
    have a4 : _ = R.ok (AD.int M) [potO a b C] := (ev_b1 (u := gInt) a3).trans rfl
    have pw := (ev_op (o := aPow) (e2 := eC (.int 3)) (y := .int 3) a4 rfl).trans (pow_ok (by decide) (by decide) (up b4' (by decide)))
    generalize M ^ (3 : Int).toNat = M3 at pw
    have pw2 : _ = R.ok (AD.int M3) [potO a b C] := (ev_b1 (u := gInt) pw).trans rfl
    have v3 : eVar 3 S1 [potO a b C] = .ok (.int q) [potO a b C] := by subst hS1; rfl
    have bl := (ev_op (o := aMod) pw2 v3).trans (mod_ok q0)
    have b5' : (M3 % q).natAbs < 2 ^ 31 := abs_mod q0 q1
    generalize M3 % q = B at bl b5'
    obtain ⟨S2, hS2⟩ : ∃ S2 : Slots, S2 = [some (.ref 0), some (.int u), none, some (.int q), some (.int B)] := ⟨_, rfl⟩
    have w0 : (eOp aIxD (eVar 0) (eC (.int 2))) S2 [potO a b C] = .ok (.int C) [potO a b C] := by subst hS2; rfl
    have w4 : eVar 4 S2 [potO a b C] = .ok (.int B) [potO a b C] := by subst hS2; rfl
    have n1 := (ev_op (o := aMod) (e2 := eC (.int 12409)) (y := .int 12409) ((ev_b1 (u := gInt) w4).trans (rfl : _ = R.ok (AD.int B) [potO a b C])) rfl).trans (mod_ok (by decide))
    have n2 := (ev_op (o := aMul) (e1 := eC (.int 311)) (x := .int 311) rfl w0).trans (mul_ok (i := 311) (by decide +kernel) (up hc1 (by decide)))
    have b6' : (311 * C : Int).natAbs < 2 ^ (9 + 31) := abs_mul (by decide) hc1
    have b7' : (B % 12409).natAbs < 2 ^ (9 + 31) := abs_mod (by decide) (by decide)
    have n3 := (ev_op (o := aAdd) n1 n2)
    have b8' : (B % 12409 + 311 * C : Int).natAbs < 2 ^ (9 + 31 + 1) := abs_add b7' b6'
    have n4 := (ev_op (o := aMul) w4 (n3.trans (rfl : _ = R.ok (AD.int (B % 12409 + 311 * C)) [potO a b C]))).trans (mul_ok (up b5' (by decide)) (up b8' (by decide)))
    generalize B * (B % 12409 + 311 * C) = Z at n4
    have n5 := (ev_op (o := aMod) (e2 := eC (.int 2305843009213693907)) (y := .int 2305843009213693907) ((ev_b1 (u := gInt) n4).trans (rfl : _ = R.ok (AD.int Z) [potO a b C])) rfl).trans (mod_ok (by decide))
    generalize Z % 2305843009213693907 = Y at n5
    obtain ⟨S3, hS3⟩ : ∃ S3 : Slots, S3 = [some (.ref 0), some (.int u), none, some (.int q), some (.int Y)] := ⟨_, rfl⟩
    have x4 : eVar 4 S3 [potO a b C] = .ok (.int Y) [potO a b C] := by subst hS3; rfl
    have x1 : eVar 1 S3 [potO a b C] = .ok (.int u) [potO a b C] := by subst hS3; rfl
    have r1 := (ev_op (o := aFdv) (e2 := eC (.int 197)) (y := .int 197) x4 rfl).trans (fdv_ok (by decide) (by decide +kernel))
    have r2 := (ev_op (o := aMod) ((ev_b1 (u := gInt) r1).trans (rfl : _ = R.ok (AD.int (Y / 197)) [potO a b C])) x1).trans (mod_ok hu)
    refine ⟨Y / 197 % u, a, C, Int.emod_nonneg _ (Int.ne_of_gt hu), Int.emod_lt_of_pos _ hu, ⟨p.b, c1, by have := p.c1; omega⟩, ?_⟩
    have k : bTake (tkS0 u) [potO a b c] = .rt (.int (Y / 197 % u)) [potO a b C] := by
      unfold bTake
      refine (ev_seq (s1 := tkS0 u) (μ1 := [potO a b c]) ((ev_if (b := decide (0 < a)) (μ1 := [potO a b c]) rfl).trans ?_)).trans ?_
      · rw [decide_eq_false h]; rfl
      refine (ev_seq (s1 := tkS0 u) (μ1 := [potO a b C]) ?_).trans ?_
      · rw [← hC]; rfl
      refine (ev_seq ((ev_set q2).trans (by subst hS1; rfl : _ = SR.nx S1 [potO a b C]))).trans ?_
      refine (ev_seq ((ev_set bl).trans (by subst hS1 hS2; rfl : _ = SR.nx S2 [potO a b C]))).trans ?_
      refine (ev_seq ((ev_set n5).trans (by subst hS2 hS3; rfl : _ = SR.nx S3 [potO a b C]))).trans ?_
      exact ev_ret r2
    show R.ofS (bTake (tkS0 u) [potO a b c]) = _
    rw [k]
    rfl
end SC

set_option Elab.async false
set_option linter.all false
set_option maxRecDepth 100000
set_option maxHeartbeats 2000000
set_option exponentiation.threshold 5000
namespace SC
open PySem PySem.Spec PyProof.Rows L2
/-! ### plain data -/
def plD : Nat → AD → Bool
  | 0, _ => false
  | k + 1, d => match d with
    | .non => true | .bl _ => true | .int _ => true | .str _ => true | .ty _ => true
    | .tup ds => ds.all (plD k)
    | .lst ds => ds.all (plD k)
    | _ => false
theorem mapO_id {f : AD → Option AD} : ∀ {ds : List AD}, (∀ d ∈ ds, f d = some d) → mapO f ds = some ds
  | [], _ => rfl
  | d :: r, h => by
    unfold mapO
    rw [h d (by simp), mapO_id fun x hx => h x (by simp [hx])]
theorem frz_pl {m : Nat} {μ : Store} : ∀ (k : Nat) (d : AD), plD k d = true → frzD true m μ k d = some d
  | 0, _, h => by simp [plD] at h
  | k + 1, d, h => by
    have go : ∀ ds : List AD, ds.all (plD k) = true → mapO (frzD true m μ k) ds = some ds := fun ds z => mapO_id fun x hx => frz_pl k x (List.all_eq_true.mp z x hx)
    cases d with
    | tup ds => unfold frzD; simp only; rw [go ds h]
    | lst ds => unfold frzD; simp only; rw [go ds h]; rfl
    | ref _ => simp [plD] at h
    | scr _ => simp [plD] at h
    | exc _ _ => simp [plD] at h
    | lamR _ => simp [plD] at h
    | lamS _ _ => simp [plD] at h
    | _ => rfl
theorem ok_pl : ∀ (k : Nat) (d : AD), plD k d = true → okD k d = true
  | 0, _, h => by simp [plD] at h
  | k + 1, d, h => by
    have go : ∀ ds : List AD, ds.all (plD k) = true → ds.all (okD k) = true := fun ds z => List.all_eq_true.mpr fun x hx => ok_pl k x (List.all_eq_true.mp z x hx)
    cases d with
    | tup ds => exact go ds h
    | lst ds => exact go ds h
    | ref _ => simp [plD] at h
    | scr _ => simp [plD] at h
    | exc _ _ => simp [plD] at h
    | lamR _ => simp [plD] at h
    | lamS _ _ => simp [plD] at h
    | _ => rfl
theorem atI_nat {α : Type} {xs : List α} {i : Int} (h0 : 0 ≤ i) (h1 : i < xs.length) : atI xs i = xs[i.toNat]? := by
  unfold atI ixN
  rw [if_pos h0, if_pos h1]
  rfl
section
variable {s : Slots} {μ μ1 μ2 : Store} {e : SE} {f : SA} {d : AD} {ds : List AD}
theorem ev_cons (h1 : e s μ = .ok d μ1) (h2 : f s μ1 = .ok ds μ2) : aCons e f s μ = .ok (d :: ds) μ2 := by unfold aCons; rw [h1]; show R.bind (f s μ1) _ = _; rw [h2]; rfl
theorem ev_B {g : List AD → Store → R AD} (h : f s μ = .ok ds μ1) : eB g f s μ = g ds μ1 := by unfold eB; rw [h]; rfl
theorem ev_tv {b : Bool} (h : e s μ = .ok (.bl b) μ1) : tV e s μ = .ok b μ1 := by unfold tV; rw [h]; rfl
theorem ev_eif {c : ST} {a b : SE} {t : Bool} (h : c s μ = .ok t μ1) : eIf c a b s μ = if t then a s μ1 else b s μ1 := by unfold eIf; rw [h]; rfl
end
/-! ### a draw -/
theorem of_ok {n : Nat} {a b c : Int} {xs : List AD} (p : Pot n a b c) (hn : n < 900) (h0 : 0 < xs.length) (h1 : xs.length < 1000) : ∃ d a' c', d ∈ xs ∧ Pot (n + 1) a' b c' ∧ fOf [.ref 0, .lst xs] [potO a b c] = .ok d [potO a' b c'] := by
  obtain ⟨i, a', c', i0, i1, p', ht⟩ := take_ok (u := xs.length) p hn (by omega) (up (m := 10) (by show xs.length < 2 ^ 10; omega) (by decide))
  have hi : i.toNat < xs.length := by omega
  refine ⟨xs[i.toNat], a', c', List.getElem_mem _, p', ?_⟩
  have e1 : (eCallR 2 fTake (aCons (eVar 0) (aCons (eB (b1 gLen) (aCons (eVar 1) aNil)) aNil))) [some (.ref 0), some (.lst xs)] [potO a b c] = back1 0 [potO a b c] (fTake [.ref 0, .int xs.length] [potO a b c]) := rfl
  have e2 : back1 0 [potO a b c] (fTake [.ref 0, .int xs.length] [potO a b c]) = .ok (.int i) [potO a' b c'] := by rw [ht]; rfl
  have e3 : aIxD (.lst xs) (.int i) [potO a' b c'] = .ok xs[i.toNat] [potO a' b c'] := by
    show (match atI xs i with | some d => R.ok d [potO a' b c'] | none => R.bad) = _
    rw [atI_nat i0 i1, List.getElem?_eq_getElem hi]
  show R.ofS (bOf [some (.ref 0), some (.lst xs)] [potO a b c]) = _
  have : bOf [some (.ref 0), some (.lst xs)] [potO a b c] = .rt xs[i.toNat] [potO a' b c'] := ev_ret ((ev_op (e1 := eVar 1) (x := .lst xs) rfl (e1.trans e2)).trans e3)
  rw [this]
  rfl
theorem draw_ok {n : Nat} {a b c : Int} {xs : List AD} {fa : SA} {s : Slots} {μ : Store} {j : Nat} (hA : fa s μ = .ok [.ref j, .lst xs] μ) (hj : μ[j]? = some (potO a b c)) (p : Pot n a b c) (hn : n < 900) (h0 : 0 < xs.length) (h1 : xs.length < 1000) (hz : xs.all (plD 399) = true) :
    ∃ d a' c', d ∈ xs ∧ Pot (n + 1) a' b c' ∧ eCallR 2 fOf fa s μ = .ok d (μ.set j (potO a' b c')) := by
  obtain ⟨d, a', c', hd, p', h⟩ := of_ok p hn h0 h1
  refine ⟨d, a', c', hd, p', ?_⟩
  have hok : okD fz (.lst xs) = true := ok_pl 400 (.lst xs) hz
  have hf : frzD true 1 [potO a' b c'] fz d = some d := frz_pl 400 d (by
    have q := List.all_eq_true.mp hz d hd
    have mono : ∀ (k : Nat) (d : AD), plD k d = true → plD (k + 1) d = true := fun k => by
      induction k with
      | zero => intro d h; simp [plD] at h
      | succ k ih =>
        intro d h
        cases d with
        | tup ds => exact List.all_eq_true.mpr fun x hx => ih x (List.all_eq_true.mp h x hx)
        | lst ds => exact List.all_eq_true.mpr fun x hx => ih x (List.all_eq_true.mp h x hx)
        | ref _ => simp [plD] at h
        | scr _ => simp [plD] at h
        | exc _ _ => simp [plD] at h
        | lamR _ => simp [plD] at h
        | lamS _ _ => simp [plD] at h
        | _ => rfl
    exact mono 399 d q)
  unfold eCallR
  rw [hA]
  show callR 2 fOf [.ref j, .lst xs] μ = _
  have e1 : callR 2 fOf [.ref j, .lst xs] μ = (match μ[j]? with
    | some (.lst os) => if ([AD.lst xs].all (okD fz) && os.all (okD fz)) = true then back1 j μ (fOf (.ref 0 :: [.lst xs]) [.lst os]) else .bad
    | _ => .bad) := rfl
  rw [e1, hj]
  show (if ([AD.lst xs].all (okD fz) && ([.int a, .int b, .int c] : List AD).all (okD fz)) = true then back1 j μ (fOf (.ref 0 :: [.lst xs]) [potO a b c]) else .bad) = _
  have e2 : ([AD.lst xs].all (okD fz) && ([.int a, .int b, .int c] : List AD).all (okD fz)) = true := by
    show ((okD fz (.lst xs) && true) && _) = true
    rw [hok]
    rfl
  rw [if_pos e2, h]
  show (match frzD true 1 [potO a' b c'] fz d with
    | some d' => (match mapO (frzD true 1 [potO a' b c'] fz) [.int a', .int b, .int c'] with
      | some os' => R.ok d' (μ.set j (.lst os'))
      | none => .bad)
    | none => .bad) = _
  rw [hf]
  rfl
/-! ### the cells -/
theorem rest_len {α : Type} (f : α → AD) (x y z : α) (r : List α) : (((x :: y :: z :: r).map f).length : Int) = (r.length : Int) + 3 := by simp; omega
theorem cells_ok (ns : List Int) : ∃ m : Nat, (m = 1 ∨ m = 2 ∨ m = 3) ∧ fCells [.scr (ns.map AD.int), .int 3] [] = .ok (.ref 0) [.lst (rngL 0 m)] := by
  have key : ∀ v : Int, (if (if ((ns.map AD.int).length : Int) < 3 then ((ns.map AD.int).length : Int) else 3) > 1 then (if ((ns.map AD.int).length : Int) < 3 then ((ns.map AD.int).length : Int) else 3) else 1) = v →
      fCells [.scr (ns.map AD.int), .int 3] [] = R.ofS ((eLr1 (eC (.int v)) [some (.scr (ns.map AD.int)), some (.int 3)] []).st [some (.scr (ns.map AD.int)), some (.int 3)] fun d μ1 => .rt d μ1) := fun v h => by
    subst h
    rfl
  by_cases h1 : ns.length ≤ 1
  · refine ⟨1, .inl rfl, (key 1 ?_).trans (by kernel_rfl)⟩
    rw [List.length_map]
    split <;> split <;> omega
  · by_cases h2 : ns.length = 2
    · refine ⟨2, .inr (.inl rfl), (key 2 ?_).trans (by kernel_rfl)⟩
      rw [List.length_map]
      split <;> split <;> omega
    · refine ⟨3, .inr (.inr rfl), (key 3 ?_).trans (by kernel_rfl)⟩
      rw [List.length_map]
      split <;> split <;> omega
/-! ### a pot is made -/
theorem int_all {k : Nat} (ns : List Int) : (ns.map AD.int).all (okD (k + 1)) = true := List.all_eq_true.mpr fun x hx => by
  obtain ⟨i, _, rfl⟩ := List.mem_map.mp hx
  rfl
theorem pot_tail {cell pl : Int} {x : AD} {μ : Store} (h0 : pl.natAbs < 2 ^ 10) : ∃ a b : Int, Pot 0 a b 0 ∧
    (sSeq (sSet 3 (eOp aMul (eOp aMod (eB (b1 gInt) (aCons (eB (b1 gAbs) (aCons (eVar 2) aNil)) aNil)) (eOp aPow (eOp aPow (eC (.int 10)) (eC (.int 60))) (eC (.int 5)))) (eB (b1 gInt) (aCons (eOp aGe (eB (b1 gAbs) (aCons (eVar 2) aNil)) (eOp aPow (eC (.int 10)) (eC (.int 18)))) aNil)))) (sSeq (sSet 4 (eOp aMod (eB (b1 gInt) (aCons (eVar 2) aNil)) (eC (.int 2305843009213693951)))) (sRet (eOwn (aCons (eVar 3) (aCons (eOp aMod (eB (b1 gInt) (aCons (eOp aAdd (eOp aAdd (eOp aMul (eVar 4) (eC (.int 80051))) (eOp aMul (eOp aMul (eC (.int 9859)) (eVar 1)) (eVar 1))) (eC (.int 2341))) aNil)) (eC (.int 2305843009213693921))) (aCons (eC (.int 0)) aNil))))))) [some x, some (.int pl), some (.int cell), none, none] μ = .rt (.ref μ.length) (μ ++ [potO a b 0]) := by
  obtain ⟨S0, hS0⟩ : ∃ S : Slots, S = [some x, some (.int pl), some (.int cell), none, none] := ⟨_, rfl⟩
  have c0 : eVar 2 S0 μ = .ok (.int cell) μ := by subst hS0; rfl
  have ab : (eB (b1 gAbs) (aCons (eVar 2) aNil)) S0 μ = .ok (.int (if cell < 0 then -cell else cell)) μ := (ev_b1 (u := gAbs) c0).trans rfl
  generalize (if cell < 0 then -cell else cell) = A at ab
  have pw := (ev_op (o := aPow) (e1 := eC (.int 10)) (e2 := eC (.int 60)) (s := S0) (μ := μ) (x := .int 10) (y := .int 60) rfl rfl).trans (pow_ok (by decide) (by decide) (by decide +kernel))
  have pw2 := (ev_op (o := aPow) (e2 := eC (.int 5)) (y := .int 5) pw rfl).trans (pow_ok (by decide) (by decide) (by decide +kernel))
  have md := (ev_op (o := aMod) ((ev_b1 (u := gInt) ab).trans (rfl : _ = R.ok (AD.int A) μ)) pw2).trans (mod_ok (by decide +kernel))
  have mb : (A % ((10 : Int) ^ (60 : Int).toNat) ^ (5 : Int).toNat).natAbs < 2 ^ 1000 := abs_mod (by decide +kernel) (by decide +kernel)
  generalize A % ((10 : Int) ^ (60 : Int).toNat) ^ (5 : Int).toNat = M at md mb
  have pw3 := (ev_op (o := aPow) (e1 := eC (.int 10)) (e2 := eC (.int 18)) (s := S0) (μ := μ) (x := .int 10) (y := .int 18) rfl rfl).trans (pow_ok (by decide) (by decide) (by decide +kernel))
  have ge := (ev_op (o := aGe) ab pw3)
  obtain ⟨t, ht⟩ : ∃ t : Bool, aGe (.int A) (.int ((10 : Int) ^ (18 : Int).toNat)) μ = .ok (.bl t) μ := ⟨_, rfl⟩
  have gi := (ev_b1 (u := gInt) (ge.trans ht)).trans (rfl : _ = R.ok (AD.int (b2 t)) μ)
  have tb : (b2 t).natAbs < 2 ^ 1 := by cases t <;> decide
  have ow := (ev_op (o := aMul) md gi).trans (mul_ok (up mb (by decide)) (up tb (by decide)))
  generalize M * b2 t = O at ow
  obtain ⟨S1, hS1⟩ : ∃ S : Slots, S = [some x, some (.int pl), some (.int cell), some (.int O), none] := ⟨_, rfl⟩
  have c1 : eVar 2 S1 μ = .ok (.int cell) μ := by subst hS1; rfl
  have sm := (ev_op (o := aMod) (e2 := eC (.int 2305843009213693951)) (y := .int 2305843009213693951) ((ev_b1 (u := gInt) c1).trans (rfl : _ = R.ok (AD.int cell) μ)) rfl).trans (mod_ok (by decide))
  have smb : (cell % 2305843009213693951).natAbs < 2 ^ 62 := abs_mod (by decide) (by decide)
  generalize cell % 2305843009213693951 = s at sm smb
  obtain ⟨S2, hS2⟩ : ∃ S : Slots, S = [some x, some (.int pl), some (.int cell), some (.int O), some (.int s)] := ⟨_, rfl⟩
  have v1 : eVar 1 S2 μ = .ok (.int pl) μ := by subst hS2; rfl
  have v3 : eVar 3 S2 μ = .ok (.int O) μ := by subst hS2; rfl
  have v4 : eVar 4 S2 μ = .ok (.int s) μ := by subst hS2; rfl
  have m1 := (ev_op (o := aMul) (e2 := eC (.int 80051)) (y := .int 80051) v4 rfl).trans (mul_ok (up smb (by decide)) (by decide +kernel))
  have m2 := (ev_op (o := aMul) (e1 := eC (.int 9859)) (x := .int 9859) rfl v1).trans (mul_ok (by decide +kernel) (up h0 (by decide)))
  have b2' : (9859 * pl : Int).natAbs < 2 ^ (14 + 10) := abs_mul (by decide) h0
  have m3 := (ev_op (o := aMul) m2 v1).trans (mul_ok (up b2' (by decide)) (up h0 (by decide)))
  have a1 := (ev_op (o := aAdd) m1 m3).trans (rfl : _ = R.ok (AD.int (s * 80051 + 9859 * pl * pl)) μ)
  have a2 := (ev_op (o := aAdd) (e2 := eC (.int 2341)) (y := .int 2341) a1 rfl).trans (rfl : _ = R.ok (AD.int (s * 80051 + 9859 * pl * pl + 2341)) μ)
  generalize s * 80051 + 9859 * pl * pl + 2341 = Z at a2
  have r := (ev_op (o := aMod) (e2 := eC (.int 2305843009213693921)) (y := .int 2305843009213693921) ((ev_b1 (u := gInt) a2).trans (rfl : _ = R.ok (AD.int Z) μ)) rfl).trans (mod_ok (by decide))
  have rb : (Z % 2305843009213693921).natAbs < 2 ^ 62 := abs_mod (by decide) (by decide)
  generalize Z % 2305843009213693921 = b at r rb
  refine ⟨O, b, ⟨rb, by decide, by decide⟩, ?_⟩
  rw [← hS0]
  refine (ev_seq ((ev_set ow).trans (by subst hS0 hS1; rfl : _ = SR.nx S1 μ))).trans ?_
  refine (ev_seq ((ev_set sm).trans (by subst hS1 hS2; rfl : _ = SR.nx S2 μ))).trans ?_
  refine ev_ret ?_
  have l := ev_cons v3 (ev_cons r (ev_cons (e := eC (.int 0)) (d := .int 0) (f := aNil) (ds := []) rfl rfl))
  unfold eOwn
  rw [l]
  show chk (decide (3 ≤ sizeLine)) _ = _
  rw [decide_eq_true (by rw [sizeLine_eq]; decide)]
  rfl
theorem pot_ok (ns : List Int) (pl : Int) (p0 : 0 ≤ pl) (p1 : pl < 1000) (μ : Store) : ∃ a b : Int, Pot 0 a b 0 ∧ callO 2 fPot [.scr (ns.map AD.int), .int pl] μ = .ok (.ref μ.length) (μ ++ [potO a b 0]) := by
  have hp : pl.natAbs < 2 ^ 10 := by omega
  have main : ∃ (cell : Int) (μ1 : Store), (sSet 2 (eIf (tV (eOp aLt (eVar 1) (eB (b1 gLen) (aCons (eVar 0) aNil)))) (eOp aIxD (eVar 0) (eVar 1)) (eOp aAdd (eOp aAdd (eOp aMod (eB (b1 gInt) (aCons (eB (b1 gSum) (aCons (eSl (eVar 0) oNo (oSo (eC (.int 1)))) aNil)) aNil)) (eC (.int 1000117))) (eOp aMul (eC (.int 4723)) (eVar 1))) (eC (.int 3119))))) [some (.scr (ns.map AD.int)), some (.int pl), none, none, none] [] = .nx [some (.scr (ns.map AD.int)), some (.int pl), some (.int cell), none, none] μ1 := by
    obtain ⟨S, hS⟩ : ∃ S : Slots, S = [some (.scr (ns.map AD.int)), some (.int pl), none, none, none] := ⟨_, rfl⟩
    have v0 : ∀ μ, eVar 0 S μ = .ok (.scr (ns.map AD.int)) μ := fun μ => by subst hS; rfl
    have v1 : ∀ μ, eVar 1 S μ = .ok (.int pl) μ := fun μ => by subst hS; rfl
    have ln : (eB (b1 gLen) (aCons (eVar 0) aNil)) S [] = .ok (.int (ns.map AD.int).length) [] := (ev_b1 (u := gLen) (v0 [])).trans rfl
    have cd : (tV (eOp aLt (eVar 1) (eB (b1 gLen) (aCons (eVar 0) aNil)))) S [] = .ok (decide (pl < ((ns.map AD.int).length : Int))) [] := ev_tv ((ev_op (v1 []) ln).trans rfl)
    rw [← hS]
    by_cases h : pl < ((ns.map AD.int).length : Int)
    · have hi : pl.toNat < ns.length := by rw [List.length_map] at h; omega
      have e : (eIf (tV (eOp aLt (eVar 1) (eB (b1 gLen) (aCons (eVar 0) aNil)))) (eOp aIxD (eVar 0) (eVar 1)) (eOp aAdd (eOp aAdd (eOp aMod (eB (b1 gInt) (aCons (eB (b1 gSum) (aCons (eSl (eVar 0) oNo (oSo (eC (.int 1)))) aNil)) aNil)) (eC (.int 1000117))) (eOp aMul (eC (.int 4723)) (eVar 1))) (eC (.int 3119)))) S [] = .ok (.int ns[pl.toNat]) [] := by
        refine (ev_eif cd).trans ?_
        rw [decide_eq_true h, if_pos rfl]
        refine (ev_op (v0 []) (v1 [])).trans ?_
        show (match atI (ns.map AD.int) pl with | some d => R.ok d [] | none => R.bad) = _
        rw [atI_nat p0 h, List.getElem?_map, List.getElem?_eq_getElem hi]
        rfl
      exact ⟨_, _, (ev_set e).trans (by subst hS; rfl)⟩
    · have sl : ∃ (l : List Int), (eSl (eVar 0) oNo (oSo (eC (.int 1)))) S [] = .ok (.ref 0) [.lst (l.map AD.int)] := by
        refine ⟨cutA ns none (some 1), ?_⟩
        have e1 : (eSl (eVar 0) oNo (oSo (eC (.int 1)))) S [] = .ok (.ref 0) [.lst (cutA (ns.map AD.int) none (some 1))] := by subst hS; rfl
        have e2 : cutA (ns.map AD.int) none (some 1) = (cutA ns none (some 1)).map AD.int := by
          unfold cutA
          rw [List.map_take, List.map_drop, List.length_map]
        rw [e1, e2]
      obtain ⟨l, sl⟩ := sl
      have il : ∀ l : List Int, intsA (l.map AD.int) = some l := fun l => by
        induction l with
        | nil => rfl
        | cons x r ih => show (match intsA (r.map AD.int) with | some l => some (x :: l) | none => none) = _; rw [ih]
      have sm : (eB (b1 gSum) (aCons (eSl (eVar 0) oNo (oSo (eC (.int 1)))) aNil)) S [] = .ok (.int (sumI l)) [.lst (l.map AD.int)] := (ev_b1 (u := gSum) sl).trans (by
        show (match intsA (l.map AD.int) with | some l' => R.ok (AD.int (sumI l')) [.lst (l.map AD.int)] | none => R.bad) = _
        rw [il])
      obtain ⟨μ1, hμ⟩ : ∃ μ1 : Store, μ1 = [.lst (l.map AD.int)] := ⟨_, rfl⟩
      rw [← hμ] at sm
      have md := (ev_op (o := aMod) (e2 := eC (.int 1000117)) (y := .int 1000117) ((ev_b1 (u := gInt) sm).trans (rfl : _ = R.ok (AD.int (sumI l)) μ1)) rfl).trans (mod_ok (by decide))
      have ml := (ev_op (o := aMul) (e1 := eC (.int 4723)) (x := .int 4723) rfl (v1 μ1)).trans (mul_ok (by decide +kernel) (up hp (by decide)))
      have a1 := (ev_op (o := aAdd) md ml).trans (rfl : _ = R.ok (AD.int (sumI l % 1000117 + 4723 * pl)) μ1)
      have a2 := (ev_op (o := aAdd) (e2 := eC (.int 3119)) (y := .int 3119) a1 rfl).trans (rfl : _ = R.ok (AD.int (sumI l % 1000117 + 4723 * pl + 3119)) μ1)
      refine ⟨sumI l % 1000117 + 4723 * pl + 3119, μ1, (ev_set ((ev_eif cd).trans ?_)).trans (by subst hS; rfl)⟩
      rw [decide_eq_false h]
      exact a2
  obtain ⟨cell, μ1, hm⟩ := main
  obtain ⟨a, b, hP, ht⟩ := pot_tail (cell := cell) (x := .scr (ns.map AD.int)) (μ := μ1) hp
  refine ⟨a, b, hP, ?_⟩
  have e : fPot [.scr (ns.map AD.int), .int pl] [] = .ok (.ref μ1.length) (μ1 ++ [potO a b 0]) := by
    show R.ofS (bPot [some (.scr (ns.map AD.int)), some (.int pl), none, none, none] []) = _
    have : bPot [some (.scr (ns.map AD.int)), some (.int pl), none, none, none] [] = .rt (.ref μ1.length) (μ1 ++ [potO a b 0]) := (ev_seq hm).trans ht
    rw [this]
    rfl
  have ok : ([.scr (ns.map AD.int), .int pl] : List AD).all (okD fz) = true := by
    show ((ns.map AD.int).all (okD 399) && _) = true
    rw [int_all (k := 398)]
    rfl
  show (if ([.scr (ns.map AD.int), .int pl] : List AD).all (okD fz) = true then backO μ (fPot [.scr (ns.map AD.int), .int pl] []) else .bad) = _
  rw [if_pos ok, e]
  show (match (μ1 ++ [potO a b 0])[μ1.length]? with
    | some (.lst ds) => (match mapO (frzD false 0 (μ1 ++ [potO a b 0]) fz) ds with
      | some ds' => R.ok (AD.ref μ.length) (μ ++ [AO.lst ds'])
      | none => .bad)
    | _ => .bad) = _
  rw [List.getElem?_append_right (Nat.le_refl _), Nat.sub_self]
  rfl
end SC

set_option Elab.async false
set_option linter.all false
set_option maxRecDepth 100000
set_option maxHeartbeats 2000000
/-! list comprehensions whose block may lean on what the def's frame holds where the block begins -/
namespace SC
open PySem PySem.Spec PyProof.Rows L2 LamX NdefX
section
variable {X : Cx}
/-- the block's rules, given what is known of the frame -/
structure BlkR (X : Cx) (pins : List (Addr × Obj)) (σ : L2.St) (scope : Scope) (tg elt : Expr) (ifs : List Expr) (g : TG) (tt : TT) (te : TE) : Prop where
  all : ∀ (t : Shared) (G : Hp) (C : Addr) (cl : List (Str × Addr)) (fp : List Addr), Inv X pins σ G t → (∀ b ∈ fp, FpOk X pins G b) → (∀ b ∈ fp, b < t.heap.objs.size) →
    PG (X.blk t G scope (compEnvC scope cl C X.env) fp) tg g ∧ PTs (X.blk t G scope (compEnvC scope cl C X.env) fp) ifs tt ∧ PE (X.blk t G scope (compEnvC scope cl C X.env) fp) elt te
theorem lc_known {pins : List (Addr × Obj)} {s : Shared} {σ : L2.St} {H : Hp} {Q : VK} {elt tg iter : Expr} {ifs : List Expr} {scope : Scope} {own : List (Str × Nat)} {pos pq : Pos} {wi : TI} {g : TG} {tt : TT} {te : TE} {use : Option (Value → Sem Unit)} {F : Value → Shared → Prop}
    (calm : X.calm = true) (nd : X.N.Nodup) (I : Inv X pins σ H s) (pi : PI X tg iter wi) (blk : BlkOk X.N X.env.scope scope own) (R : BlkR X pins σ scope tg elt ifs g tt te) (fold : ∀ x, foldedSetIterable iter X.env x = pure x) (h : tLc wi g tt te (own.map (·.2)) σ H Q)
    (back : ∀ L C t m G, Inv X pins σ G t → Q (.ref L) G → t.heap.Ns C m → FpOk X pins G C → compPost (model X.prog X.w) X.A X.xe use F (.ref L) C (.ok .next) t) :
    wpAny (model X.prog X.w) X.A (comprehension (.ListComp elt [⟨tg, iter, ifs, 0⟩] scope pos) scope X.env pq (newList []) false (eval iter X.env) use) F X.xe s := by
  have clo : ∀ z ∈ scope.names, z.2 = .free → ∃ c, X.env.cells.lookup z.1 = some c := fun z hz e => (blk.free z hz e).elim (fun k => I.ok.has _ (Or.inl k)) fun k => I.ok.has _ (Or.inr k)
  have nm : ∀ z ∈ scope.names, z.2 = .local → scope.names.lookup z.1 = some .local := fun z hz e => (blk.uniq z hz).trans (congrArg some e)
  refine wpAny_comprehension_free (use := use) rfl fold (closure_ok clo) blk.kind nm (thn (pi.run pins s σ H _ I h) fun _ _ x1 => thn x1 fun _ t2 ⟨it, fp, tn, J, G2, eq, J2, T, at2, fresh, turns⟩ => ?_)
  subst eq
  refine wpAny_newObj_type (newEnv_comp ?_) (Nat.zero_le sizeLine)
  obtain ⟨L, eL⟩ : ∃ L, L = t2.heap.objs.size := ⟨_, rfl⟩
  obtain ⟨V, ⟨k0, v0⟩, turn⟩ := turns L (J2.hok.fresh (by rw [eL]; exact Nat.le_refl _))
  obtain ⟨t3, e3⟩ : ∃ t : Shared, t = { t2 with heap := t2.heap.push { cls := .type "list", data := .seq ([] : List Value).toArray } } := ⟨_, rfl⟩
  have grow : ∀ b o, t2.heap.get? b = some o → t3.heap.get? b = some o := fun b o e => by rw [e3]; exact Heap.get?_push_of_some _ e
  have size3 : t3.heap.objs.size = t2.heap.objs.size + 1 := by rw [e3]; exact Heap.size_push _ _
  obtain ⟨G3, eG⟩ : ∃ G : Hp, G = upd G2 L (.lst []) := ⟨_, rfl⟩
  have J3 : Inv X pins σ G3 t3 := by
    rw [eG, e3]
    exact J2.laid (t' := t2.toks) (fun b o e => Heap.get?_push_of_some _ e) (Nat.le_of_eq eL.symm) ⟨Nat.zero_le _, [], 0, .nil, by rw [eL]; exact Heap.get?_push_size _ rfl⟩
  have old : ∀ b ∈ fp, b < t2.heap.objs.size := fun b hb => (T.obj _ _ at2 b hb).elim fun o e => Heap.lt_size e.1
  have ne : ∀ b ∈ fp, b ≠ L := fun b hb => by rw [eL]; exact Nat.ne_of_lt (old b hb)
  have fp3 : ∀ b ∈ fp, FpOk X pins G3 b := fun b hb => ⟨by rw [eG, upd_ne (ne b hb)]; exact (fresh b hb).1, (fresh b hb).2⟩
  have lt3 : ∀ b ∈ fp, b < t3.heap.objs.size := fun b hb => by rw [size3]; exact Nat.lt_succ_of_lt (old b hb)
  have at3 : tn 0 t3.heap := T.keep _ _ _ at2 fun b _ o e => grow b o e
  have J4 := block_start J3 blk nd fun b hb => ⟨fp3 b hb, lt3 b hb⟩
  obtain ⟨rg, rt, re⟩ := R.all t3 G3 t3.heap.objs.size (cellsFrom (t3.heap.objs.size + 1) scope.names (cloFrom X.env.cells scope.names [])) fp J3 fp3 lt3
  have fin : codeAny (model X.prog X.w) X.A (.compStart (.ListComp elt [⟨tg, iter, ifs, 0⟩] scope pos) 0 (.ref it) (.ref L) (compEnvC scope (cellsFrom (t3.heap.objs.size + 1) scope.names (cloFrom X.env.cells scope.names [])) t3.heap.objs.size X.env)) (compPost (model X.prog X.w) X.A X.xe use F (.ref L) t3.heap.objs.size)
      { t3 with heap := pushCells (t3.heap.push { cls := .type "dict", data := .dict #[] }) scope.names } := by
    have off : ∀ b ∈ fp, G3 b = none := fun b hb => (fp3 b hb).1
    obtain ⟨ce, ece⟩ : ∃ ce, ce = compEnvC scope (cellsFrom (t3.heap.objs.size + 1) scope.names (cloFrom X.env.cells scope.names [])) t3.heap.objs.size X.env := ⟨_, rfl⟩
    have loc : ce.locals = t3.heap.objs.size := by rw [ece]; rfl
    obtain ⟨t4, e4⟩ : ∃ t : Shared, t = { t3 with heap := pushCells (t3.heap.push { cls := .type "dict", data := .dict #[] }) scope.names } := ⟨_, rfl⟩
    have at4 : tn 0 t4.heap := T.keep _ _ _ at3 fun b _ o e => by rw [e4]; exact pushCells_keeps _ _ _ _ (Heap.get?_push_of_some _ e)
    rw [← ece] at J4 rg rt re ⊢
    rw [← e4] at J4 ⊢
    have held : ∀ {τ : L2.St} {G' : Hp} {t' : Shared}, Inv (X.blk t3 G3 scope ce fp) [] τ G' t' → (∀ b ∈ fp, G' b = none) → ∀ b ∈ fp, FpOk (X.blk t3 G3 scope ce fp) [] G' b := fun K n b hb =>
      ⟨n b hb, (K.ok.exf b hb).1, K.ok.exfs b hb, Or.inl hb, fun x c e => (K.ok.exf b hb).2 x c e, fun p hp => absurd (show p ∈ ([] : List (Addr × Obj)) ++ [] from hp) (by simp)⟩
    have v3 : V 0 k0 G3 := by rw [eG]; exact v0
    have run : codeAny (model X.prog X.w) X.A (.compLoop (.ListComp elt [⟨tg, iter, ifs, 0⟩] scope pos) 0 (.ref it) (.ref L) ce) (compPost (model X.prog X.w) X.A X.xe use F (.ref L) t3.heap.objs.size) t4 := by
      refine compLoop_any (fun k t => ∃ i G, Inv (X.blk t3 G3 scope ce fp) [] (wipe σ (own.map (·.2))) G t ∧ tn i t.heap ∧ (∀ b ∈ fp, G b = none) ∧ V i k G) (fun k t5 ⟨i, G5, J5, at5, off5, v5⟩ => ?_) k0 ⟨0, G3, J4, at4, off, v3⟩
      rcases turn i k G5 v5 with ⟨stop, fine⟩ | ⟨go, Nx, less, step⟩
      · refine thnF (T.done (X.blk t3 G3 scope ce fp) rfl rfl rfl calm i [] t5 _ G5 (fun _ _ => False) J5 (held J5 off5) at5 stop) fun r t6 ⟨er, J6⟩ => ?_
        subst er
        have J7 : Inv X pins σ G5 t6 := J3.call' (ch := fp) J6.os J6.base J6.hok J6.bare fun b hb => let z := (fp3 b hb).2; ⟨z.2.2.1, z.1, z.2.2.2.1, z.2.2.2.2⟩
        have free := J6.free
        obtain ⟨m, ns, _⟩ := J6.loc
        have ns' : t6.heap.Ns ce.locals m := ns
        have free' : G5 ce.locals = none := free
        rw [loc] at ns' free'
        exact back L t3.heap.objs.size t6 m G5 J7 fine ns' (J3.fpOk (Nat.le_refl _) free')
      · refine thnF (T.item (X.blk t3 G3 scope ce fp) rfl rfl rfl calm i [] t5 _ G5 (fun _ _ => False) J5 (held J5 off5) at5 go) fun r t6 ⟨u, er, more⟩ => ?_
        subst er
        refine thnF more fun _ t7 ⟨x, G7, J7, r7, y7, at7, off7⟩ => ?_
        refine thnF (rg.run _ t7 _ G7 x u _ (J7.pinned (held J7 off7) (T.obj _ _ at7)) r7 (step x G7 y7)) fun _ t8 ⟨τ, G8, J8, same, next⟩ => ?_
        have close : ∀ {t' : Shared} {G' : Hp}, Inv (X.blk t3 G3 scope ce fp) ([] ++ pinsAt fp t7.heap) τ G' t' → Nx G' → ∃ m, m < k ∧ ∃ i G, Inv (X.blk t3 G3 scope ce fp) [] (wipe σ (own.map (·.2))) G t' ∧ tn i t'.heap ∧ (∀ b ∈ fp, G b = none) ∧ V i m G := fun {t' G'} J' nx => by
          obtain ⟨k', lt, v'⟩ := less G' nx
          have stay : ∀ b ∈ fp, ∀ o, t7.heap.get? b = some o → t'.heap.get? b = some o ∧ G' b = none := fun b hb o e => (J'.pin (b, o) (List.mem_append_right _ (List.mem_append_right _ (mem_pinsAt hb e)))).imp id And.left
          have len : (wipe σ (own.map (·.2))).length = τ.length := by rw [← same]; exact wipe_length _ _
          have sub : ∀ (j : Nat) (v : L2.V), (wipe σ (own.map (·.2)))[j]? = some (some v) → τ[j]? = some (some v) := fun j v e => by rw [← same] at e; exact (wipe_some e).1
          exact ⟨k', lt, i + 1, G', (J'.unpinned (pins := [])).weak len sub, T.keep _ _ _ at7 fun b hb o e => (stay b hb o e).1, fun b hb => (T.obj _ _ at7 b hb).elim fun o e => (stay b hb o e.1).2, v'⟩
        refine thnF (rt.run _ t8 τ G8 _ J8 next) fun b t9 ⟨G9, J9, tail⟩ => ?_
        cases b with
        | false => rw [if_neg (by decide)] at tail ⊢; exact close J9 tail
        | true =>
          rw [if_pos rfl] at tail ⊢
          exact thnF (re.run _ t9 τ G9 _ J9 tail) fun z t10 ⟨y, G10, J10, r10, acc, hL, hlt, nx⟩ => app_ok (X := X.blk t3 G3 scope ce fp) J10 hL hlt r10 fun t11 J11 => close J11 nx
    exact codeAny_compStart_list run (T.self X.A 0 _ _ _ at4 run)
  rw [e3, eL] at fin
  exact fin
variable {w : Wo} {W : WX}
theorem r_lcF {elt tg iter : Expr} {ifs : List Expr} {scope : Scope} {own : List (Str × Nat)} {pos : Pos} {fi : SI} {g : TG} {gs : AD → Slots → Option Slots} {tt : ST} {fe : SE} (calm : X.calm = true) (nd : X.N.Nodup) (pi : PI X tg iter (liftI w W fi)) (blk : BlkOk X.N X.env.scope scope own) (hT : TgOk w.K w (own.map (·.2)) g gs)
    (R : ∀ pins σ, BlkR X pins σ scope tg elt ifs g (liftT w WN tt) (teA w (fun σ2 => wipe σ2 (own.map (·.2)) = wipe σ (own.map (·.2))) fe)) (fold : ∀ x, foldedSetIterable iter X.env x = pure x := by intro _; rfl) : PE X (.ListComp elt [⟨tg, iter, ifs, 0⟩] scope pos) (lift w W (eLc fi (own.map (·.2)) gs tt fe)) := by
  refine ⟨fun pins s σ H Q I h => ?_⟩
  rw [eval_ListComp]
  exact lc_known calm nd I pi blk (R pins σ) fold (lift_lc hT (fun _ e => e) h) fun L C t m G J q ns z => ⟨m, ns, fun _ sb => ⟨.ref L, G, J.turned (t' := t.toks) (fun b o hb e => (sb.2 b hb).trans e) z.1 z.2.1 z.2.2.2.1 z.2.2.2.2.1 z.2.2.2.2.2, rfl, q⟩⟩
theorem rs_setLcF {i : Nat} {y : Str} {py : Pos} {elt tg iter : Expr} {ifs : List Expr} {scope : Scope} {own : List (Str × Nat)} {pos spos : Pos} {fi : SI} {g : TG} {gs : AD → Slots → Option Slots} {tt : ST} {fe : SE} (calm : X.calm = true) (nd : X.N.Nodup) (pi : PI X tg iter (liftI w W fi)) (blk : BlkOk X.N X.env.scope scope own) (hT : TgOk w.K w (own.map (·.2)) g gs)
    (R : ∀ pins σ, BlkR X pins σ scope tg elt ifs g (liftT w WN tt) (teA w (fun σ2 => wipe σ2 (own.map (·.2)) = wipe σ (own.map (·.2))) fe)) (hy : X.N[i]? = some y := by rfl) (hyl : X.env.scope.names.lookup y = some .local := by rfl)
    (hsw : swapsWith (.ListComp elt [⟨tg, iter, ifs, 0⟩] scope pos) (some (.Name y py)) spos.line X.env = pure true := by rfl) (fold : ∀ x, foldedSetIterable iter X.env x = pure x := by intro _; rfl) : PS X (.Assign [.Name y py] (.ListComp elt [⟨tg, iter, ifs, 0⟩] scope pos) spos) (liftS w W (sSet i (eLc fi (own.map (·.2)) gs tt fe))) := by
  refine ⟨fun pins s σ H D I ⟨ρ, B, sl, μ, rl, rs, o⟩ => ?_⟩
  have h : tLc (liftI w W fi) g (liftT w WN tt) (teA w (fun σ2 => wipe σ2 (own.map (·.2)) = wipe σ (own.map (·.2))) fe) (own.map (·.2)) σ H (fun x H1 => gName i x σ H1 D.nx) :=
    lift_lc (Q := fun x H1 => gName i x σ H1 D.nx) hT (fun _ e => e) (liftS_e rl rs o fun x d ρ1 B1 H1 μ1 rl1 rs1 p1 o1 => o1 ρ1 B1 H1 _ (Le.rfl' rl1) rl1 (RSl.set p1 i rs1))
  rw [exec_Assign_Name_used _ _ _ _ hsw]
  refine wpAny_bind (wpAny_standAt (wpAny_bind (wpAny_bind (thn (lc_known (F := fun _ t => SP X pins D .next t) calm nd I pi blk (R pins σ) fold h fun L C t m G J q ns z => ?_) fun _ _ hq => wpAny_pure (wpAny_pure hq)))))
  refine wpAny_assign_Name (store_ok2 (v := V.ref L) J nd hy (Or.inl hyl) rfl (fun t2 J2 ⟨a, sb, ha⟩ => ?_) (Or.inr hyl))
  have nca : C ≠ a := by
    rcases ha with e | e
    · exact fun z' => z.2.1 (z'.trans e)
    · exact fun z' => z.2.2.2.2.1 y a e z'.symm
  exact ⟨m, ns.sameBut sb nca, fun _ sb3 => ⟨_, G, J2.turned (t' := t2.toks) (fun b o hb e => (sb3.2 b hb).trans e) z.1 z.2.1 z.2.2.2.1 z.2.2.2.2.1 z.2.2.2.2.2, q⟩⟩
/-- an element f(..)[i] -/
theorem r_ixA {Ak : L2.St → Prop} {a b : Expr} {fa fb : SE} {pos : Pos} {r : R2} {g : AD → AD → Store → R AD} (hr : IxR X r) (hg : OpS w r g) (ha : PE X a (teA w Ak fa)) (hb : PE X b (lift w WN fb)) (hs : PlainIx b := by exact fun _ _ => rfl) : PE X (.Subscript a b pos) (teA w Ak (eOp g fa fb)) :=
  PE_imp (pe_ix hr ha hb hs) fun _ _ _ h => ⟨h.1, lift_op hg h.2⟩
/-- a call within the block that is handed lambdas of the def -/
theorem d_B {Y : Cx} {pins0 : List (Addr × Obj)} {σ0 : L2.St} {t : Shared} {G : Hp} {C : Addr} {cl : List (Str × Addr)} {fp : List Addr} {scope : Scope} {vs : List Nat} {l : List (Nat × List Nat)} {k j n : Nat} {fF : List AD → Store → R AD} {x : Str} {p pos : Pos} {e : Expr} {es : List Expr} {fa : SA}
    (D : DefOk X.prog X.w X.K X.mg X.base w k x n fF) (hr : RoomG j X.A) (hj : k ≤ j) (hw : w.cl = none) (hfn : ∀ y, X.fn y = true) (hC : (l.all fun q => capC X.N X.env.scope (w.lamd q.1) q.2 && q.2.all fun i => !vs.contains i) = true) (J : Inv X pins0 σ0 G t) (hf : ∀ b ∈ fp, FpOk X pins0 G b)
    (hY : Y = X.blk t G scope (compEnvC scope cl C X.env) fp) (ha : PA Y (e :: es) (liftA (w.at' (some X.env.cells)) WN fa)) (hg : Gl Y x) (hdb : (x == ("__debug__" : Str)) = false := by decide)
    (he : starEach (e :: es) Y.env = (false, eval e Y.env) :: starEach es Y.env) (hpl : (backTo pos (starEach es Y.env)).any (·.1) = false) :
    PE Y (.Call (.Name x p) (e :: es) [] pos) (teA (w.at' (some X.env.cells)) (fun σ2 => wipe σ2 vs = wipe σ0 vs) (eCallL n fF (capF l) fa)) := by
  subst hY
  obtain ⟨f, fd, ps, F, hm, hk, hb⟩ := D.ex
  have mem : ∀ {l : List (Nat × List Nat)} {i is}, capF l i = some is → (i, is) ∈ l := fun {l i is} h => by
    unfold capF at h
    induction l with
    | nil => cases h
    | cons q r ih =>
      obtain ⟨a, b⟩ := q
      rw [List.lookup_cons] at h
      split at h
      · rename_i e2
        cases h
        rw [beq_iff_eq.mp e2]
        exact List.mem_cons_self
      · exact List.mem_cons_of_mem _ (ih h)
  have cap : ∀ i is, capF l i = some is → Caps X (cloFrom X.env.cells (w.lamd i).scope.names []) (w.lamd i).frees is ∧ (∀ y, y ∈ (w.lamd i).scope.names → y.2 = .free → y.1 ∈ (w.lamd i).frees) ∧ ∀ m ∈ is, m ∉ vs := fun i is h => by
    have q := List.all_eq_true.mp hC (i, is) (mem h)
    obtain ⟨q1, q2⟩ := He.ba q
    refine ⟨capC_caps q1 J.ok, capC_sub q1, fun m hm hv => ?_⟩
    have := List.all_eq_true.mp q2 m hm
    simp [hv] at this
  refine callL_core (X := X.blk t G scope (compEnvC scope cl C X.env) fp) (W := WN) (cells := X.env.cells) (Ak := fun σ2 => wipe σ2 vs = wipe σ0 vs) hw F (hr.mono' hj) hg hm hk hb tkN (fun pins σ H s I hA => ?_) ha hdb he hpl
  refine ⟨cellsAt X t.heap (l.flatMap fun q => (w.lamd q.1).frees), fun c ob z => ?_, fun i is ei => ?_⟩
  · obtain ⟨y, hy, e1, e2⟩ := cellsAt_mem z
    have hge := J.ok.cab y c (hfn y) e1
    have nst : c ∉ frs X.stack := fun hm => by
      rcases List.mem_cons.mp (J.stkSub c hm) with z1 | z1
      · exact J.cne y c e1 z1
      · obtain ⟨_, o1, ho1, _⟩ := J.ok.funs.mem z1
        exact absurd (Nat.lt_of_lt_of_le (Heap.lt_size ho1) hge) (Nat.lt_irrefl _)
    have nfp : c ∉ fp := fun hm => (hf c hm).2.2.2.2.1 y c e1 rfl
    have none : G c = Option.none := J.freeC y c e1
    exact ⟨I.base.free c ob e2 none nfp, I.base.keep c ob e2 none nst nfp, nst, Heap.get?_none_of_le (Nat.le_trans J.ok.bsz hge)⟩
  · obtain ⟨Cc, hsub, hvs⟩ := cap i is ei
    have Dc := cells_of J Cc
    refine ⟨Dc.inj, fun y c e1 => ?_, ?_, fun m y q v e1 e2 e3 => ?_⟩
    · rcases cloFrom_mem (PySem.mem_of_lookup e1) with hm' | ⟨h1, h2⟩
      · cases hm'
      · exact List.mem_iff_getElem?.mp (hsub _ h1 rfl)
    · have := Dc.len
      rw [List.length_map] at this
      exact this
    · have nv := hvs q (List.mem_of_getElem? e2)
      have e4 : σ0[q]? = some (some v) := by
        have w1 := wipe_get (σ := σ) vs q nv
        have w2 := wipe_get (σ := σ0) vs q nv
        rw [← w2, ← hA, w1]
        exact e3
      obtain ⟨c, z1, z2⟩ := Dc.has m y e1
      obtain ⟨u, z3, ob, z4, z5⟩ := z2 v (by rw [List.getElem?_map, e2]; exact congrArg some (slotAt_of e4))
      exact ⟨c, ob, u, z1, cellsAt_of (List.mem_flatMap.mpr ⟨(i, is), mem ei, List.mem_of_getElem? e1⟩) (Cc.sub y c z1) z4, z5, z3⟩
end
end SC

set_option Elab.async false
set_option linter.all false
set_option maxRecDepth 100000
set_option maxHeartbeats 2000000
namespace SC
open PySem PySem.Spec PyProof.Rows L2 PySem.W
/-! ### list(text) -/
section
variable {prog : Program} {w : World} {A : Around} {E : Value → Shared → Prop} {s : Shared} {x : Str} {t : Tok}
theorem ls_hint {Q : Bool → Shared → Prop} (h : Q false s) : wpAny (model prog w) A (Builtin.List.listLengthHint (.str x t)) Q E s := by
  have ty := typeIs_str s x t
  unfold Builtin.List.listLengthHint
  refine wpAny_bind (wpAny_specialOf ty PySem.F.slot_str_len.lookup ?_)
  obtain ⟨nm, en⟩ : ∃ nm : String, nm = "str.__len__" := ⟨_, rfl⟩
  rw [← en]
  wp_delta
  rw [show splitId nm = some ("str", "__len__") from by rw [en]; decide +kernel, en]
  refine wpAny_bind (wpAny_isInstance (b := true) ty (by rw [isSubtype_type]; kernel_rfl) (wpAny_ite_split (fun z => absurd z (by decide)) fun _ => wpAny_ite_split (fun _ => ?_) fun z => absurd (by decide +kernel) z))
  exact wpAny_bind (wpAny_typeOf ty (wpAny_pure h))
theorem ls_extend {R : Result → Shared → Prop} (calm : A.handled = none) (L : Addr) (c : Nat) (at0 : s.heap.get? L = some { cls := .type "list", data := .seq #[] c }) (fit : x.cps.size ≤ sizeLine)
    (fin : ∀ h' tk acc c', (∀ b o, b ≠ L → s.heap.get? b = some o → h'.get? b = some o) → h'.get? L = some { cls := .type "list", dict := none, data := .seq acc c', slots := #[] } → ItemsOf (SignAt x) acc x.cps.size → R (.ok (.ret .none)) { s with heap := h', toks := tk }) :
    wpAny (model prog w) A.in1 (Builtin.List.listExtendWith (.ref L) (.str x t) .none) (fun r s' => match r with | .done f => R (.ok f) s' | .again c' => c'.quiet = true ∧ codeAny (model prog w) A c' R s') (fun e s' => R (.error e) s') s := by
  have lt := Heap.lt_size at0
  unfold Builtin.List.listExtendWith
  refine wpAny_bind (wpAny_typeOf (typeIs_str s x t) ?_)
  have same : Builtin.List.listSameRef (.ref L) (.str x t) = false := rfl
  have nl : (Value.type "str" == Value.type "list") = false := by decide
  have nt : (Value.type "str" == Value.type "tuple") = false := by decide
  simp only [same, nl, nt, Bool.or_false, Bool.false_eq_true, if_false]
  refine wpAny_bind (wpAny_pyIter_str fun o St walks st => ?_)
  have W := walks A.in1 calm
  have at1 := Heap.get?_push_of_some o at0
  have nof : L ∉ [s.heap.objs.size] := fun z => Nat.ne_of_lt lt (List.mem_singleton.mp z)
  have loop : ∀ (h : Heap) (c₁ tk : Nat), St 0 h → (∀ b o, b ≠ L → s.heap.get? b = some o → h.get? b = some o) → h.get? L = some { cls := .type "list", data := .seq #[] c₁ } →
      codeAny (model prog w) A (.builtin "list.extend.loop" ⟨[.ref L, .ref s.heap.objs.size, .none], []⟩) R { s with heap := h, toks := tk } := fun h c₁ tk sth kh ah =>
    codeAny_extend_loopS W.toS fit L nof .none x.cps.size 0 _ #[] c₁ rfl (Nat.zero_le _) sth ah (ItemsOf.nil _) fun s' acc c' mv al items => by
      rw [Moved.eq_with mv]
      exact fin s'.heap s'.toks acc c' (fun b ob hb e => mv.heap b ob (fun z => (List.mem_cons.mp z).elim hb fun z => absurd (Heap.lt_size e) (by rw [List.mem_singleton.mp z]; exact Nat.lt_irrefl _)) (kh b ob hb e)) al items
  refine wpAny_bind (wpAny_holding (ls_hint (wpAny_ite_split (fun _ => ?_) fun _ => wpAny_pure ⟨plainId_quiet PySem.F.plain_extend_loop _, loop _ c _ st (fun b ob _ e => Heap.get?_push_of_some _ e) at1⟩)))
  refine wpAny_bind (wpAny_rule (wpAny_bind ?_))
  show wpAny _ _ (updateSeq L (·.push .none) >>= fun _ => updateSeq L (·.pop)) _ _ _
  refine wpAny_bind (wpAny_updateSeq at1 rfl ?_)
  have at2 := Heap.get?_update_self (Obj.mapSeq (·.push Value.none)) at1 rfl
  refine wpAny_updateSeq (hz := by seq_fits) at2 rfl ?_
  have at3 := Heap.get?_update_self (Obj.mapSeq (·.pop)) at2 rfl
  have oth : ∀ b ob, b ≠ L → (s.heap.push o).get? b = some ob → (((s.heap.push o).update L (Obj.mapSeq (·.push Value.none))).update L (Obj.mapSeq (·.pop))).get? b = some ob := fun b ob hb e =>
    (Heap.get?_update_other _ _ (Ne.symm hb)).trans ((Heap.get?_update_other _ _ (Ne.symm hb)).trans e)
  exact wpAny_pure ⟨plainId_quiet PySem.F.plain_extend_loop _, loop _ _ _ (W.frame 0 _ _ st fun b hb ob e => oth b ob (fun z => nof (z ▸ hb)) e) (fun b ob hb e => oth b ob hb (Heap.get?_push_of_some _ e)) at3⟩
theorem ls_call {Q : Value → Shared → Prop} (calm : A.handled = none) (fit : x.cps.size ≤ sizeLine)
    (fin : ∀ h' tk acc c', (∀ b o, s.heap.get? b = some o → h'.get? b = some o) → h'.get? s.heap.objs.size = some { cls := .type "list", dict := none, data := .seq acc c', slots := #[] } → ItemsOf (SignAt x) acc x.cps.size → Q (.ref s.heap.objs.size) { s with heap := h', toks := tk }) :
    wpAny (model prog w) A (call (.type "list") [.str x t]) Q E s := by
  refine callType_codes (Q₁ := fun obj s₁ => obj = .ref s.heap.objs.size ∧ s₁ = { s with heap := s.heap.push { cls := .type "list", data := .seq #[] } }) PySem.F.called_list (PySem.F.typeCall_list_1 _) PySem.F.entry_list_init (code_list_new _ ⟨rfl, rfl⟩) fun obj s₁ ⟨e1, e2⟩ => ?_
  subst e1 e2
  have at0 : (s.heap.push { cls := .type "list", data := .seq #[] }).get? s.heap.objs.size = some { cls := .type "list", data := .seq #[] } := Heap.get?_push_size _ rfl
  refine ⟨⟨_, at0, rfl⟩, PySem.F.args_list_init_2 _ _, ?_⟩
  show wpAny _ _ (do let old ← Builtin.List.listItems (.ref s.heap.objs.size); Builtin.List.listUpdate (.ref s.heap.objs.size) (fun _ => #[]); letGo old.toList.reverse; Builtin.List.listExtendWith (.ref s.heap.objs.size) (.str x t) .none) _ _ _
  refine wpAny_bind ?_
  unfold Builtin.List.listItems
  refine wpAny_bind (wpAny_seqItems at0 rfl (wpAny_pure ?_))
  show wpAny _ _ (updateSeq s.heap.objs.size (fun _ => #[]) >>= fun _ => letGo (#[] : Array Value).toList.reverse >>= fun _ => Builtin.List.listExtendWith (.ref s.heap.objs.size) (.str x t) .none) _ _ _
  refine wpAny_bind (wpAny_updateSeq at0 rfl ?_)
  have at1 := Heap.get?_update_self (Obj.mapSeq (fun _ => (#[] : Array Value))) at0 rfl
  refine wpAny_bind (wpAny_letGo (ls_extend (A := A.in1) calm _ _ at1 fit fun h' tk acc c' k al items => ?_))
  exact ⟨rfl, fin h' tk acc c' (fun b o e => k b o (Nat.ne_of_lt (Heap.lt_size e)) ((Heap.get?_update_other _ _ (Ne.symm (Nat.ne_of_lt (Heap.lt_size e)))).trans (Heap.get?_push_of_some _ e))) al items⟩
end
section
variable {X : Cx} {w : Wo} {W : WX}
def rListS : List V → Hp → VK → Prop := fun xs H Q => ∃ z : Str, xs = [.str z] ∧ z.length ≤ sizeLine ∧ ∀ p, H p = none → Q (.ref p) (upd H p (.lst (z.cps.toList.map fun c => V.str ⟨#[c]⟩)))
theorem call_listS (calm : X.calm = true) : CallR X (.type "list") rListS := by
  intro pins s σ H xs us Q I r h
  obtain ⟨z, rfl, hz, q⟩ := h
  obtain ⟨u, rfl, rx⟩ := vals1 r
  obtain ⟨t, rfl⟩ := rx
  refine ls_call (I.ok.hd calm) hz fun h' tk acc c' keep al items => ?_
  refine ⟨.ref s.heap.objs.size, upd H s.heap.objs.size (.lst (z.cps.toList.map fun c => V.str ⟨#[c]⟩)), I.laid (t' := tk) keep (Nat.le_refl _) ⟨by rw [List.length_map]; exact hz, acc.toList, c', ?_, by rw [Array.toArray_toList]; exact al⟩, rfl, q _ (I.hok.fresh (Nat.le_refl _))⟩
  have n : acc.toList.length = acc.size := by simp
  refine vals_of_at (by rw [List.length_map, n, items.1]; simp) fun j y v h1 h2 => ?_
  obtain ⟨c, u, e1, e2⟩ := items.2 j v (by rw [← Array.getElem?_toList]; exact h2)
  rw [List.getElem?_map, Array.getElem?_toList, e1] at h1
  cases h1
  exact ⟨u, e2⟩
def gListS : AD → Store → R AD := fun x μ => match x with
  | .str z => chk (decide ((sL z).length ≤ sizeLine)) (.ok (.ref μ.length) (μ ++ [.lst (chars (sL z))]))
  | x => gList x μ
abbrev rListA (K : PySem.W.Frag) : List V → Hp → VK → Prop := fun xs H Q => (∃ p ys, xs = [V.ref p] ∧ (SqL K H p ys ∨ SqT K H p ys) ∧ ∀ l, H l = none → Q (.ref l) (upd H l (.lst ys))) ∨ rListS xs H Q
theorem call_listA (calm : X.calm = true) : CallR X (.type "list") (rListA X.K) := CallR.or call_list_of (call_listS calm)
theorem s_listA : CallS w (rListA w.K) (b1 gListS) := call1 fun W v d ρ B H μ Q rl p o => by
  cases p with
  | str z =>
    obtain ⟨hc, o⟩ := chk_out o
    refine .inr ⟨z, rfl, of_decide_eq_true hc, fun l hl => own_lst rl ?_ hl o⟩
    exact reps_chars (sL z)
  | _ => exact .inl (s_list (w := w) _ _ _ ρ B H μ Q rl (.cons (by first | exact .non | exact .bl _ | exact .int _ | exact .ty _ | exact .tup ‹_› ‹_› | exact .lst ‹_› ‹_› | exact .scr ‹_› ‹_› | exact .ref ‹_› | exact .exc ‹_› ‹_› ‹_› | exact .lamR ‹_› ‹_› ‹_› | exact .lamS ‹_› ‹_› ‹_› ‹_›) .nil) o)
/-! ### text[::-1] -/
def uRev : AD → Store → R AD := fun x μ => match x with
  | .str z => chk (decide ((sL z).length ≤ sizeLine)) (.ok (.str (lS (sL z).reverse)) μ)
  | _ => .bad
/-! ### "".join(..) -/
def catL : List (List Nat) → List Nat
  | [] => []
  | a :: r => a ++ catL r
def isNil : List Nat → Bool
  | [] => true
  | _ => false
def aJoin : AD → AD → Store → R AD := fun x y μ => match x, seqD μ y with
  | .str a, some ds => (match strsA ds with
    | some ys => chk (isNil (sL a) && decide ((catL (ys.map sL)).length ≤ 16777216)) (.ok (.str (lS (catL (ys.map sL)))) μ)
    | none => .bad)
  | _, _ => .bad
theorem catL_len : ∀ ys : List Str, (catL (ys.map sL)).length = (ys.map (·.length)).sum
  | [] => rfl
  | y :: r => by
    show (sL y ++ catL (r.map sL)).length = y.length + (r.map (·.length)).sum
    rw [List.length_append, catL_len r]
    rfl
theorem join_nil {a : Str} (h : isNil (sL a) = true) (ys : List Str) : Txt.join a ys = lS (catL (ys.map sL)) := by
  have ha : sL a = [] := by
    cases e : sL a with
    | nil => rfl
    | cons c r => rw [e] at h; cases h
  apply sL_inj
  rw [sL_lS, TL.join_eq]
  refine (TL.tl_join a ys).trans ?_
  rw [show TL.tl a = [] from ha]
  have : ∀ l : List (List Nat), TL.joinL [] l = catL l := fun l => by
    induction l with
    | nil => rfl
    | cons x r ih =>
      cases r with
      | nil => simp [TL.joinL, catL]
      | cons y r => show x ++ ([] ++ TL.joinL [] (y :: r)) = x ++ catL (y :: r); rw [ih]; rfl
  exact this _
def eJoin (fo fe : SE) : SE := fun s μ => (fo s μ).bind fun x μ1 => match x with
  | .str _ => (fe s μ1).bind fun y μ2 => aJoin x y μ2
  | _ => .bad
theorem r_join {o e : Expr} {fo fe : SE} {apos pos : Pos} (ho : PE X o (lift w W fo)) (he : PE X e (lift w W fe)) (hK : w.K = X.K := by rfl) (hs : starEach [e] X.env = [(false, eval e X.env)] := by rfl) (hbase : attributeBase o "join" X.env (eval o X.env) = eval o X.env := by rfl) (hline : (apos.endLine == pos.line) = true := by rfl) :
    PE X (.Call (.Attribute o "join" apos) [e] [] pos) (lift w W (eJoin fo fe)) :=
  PE_imp (pe_join ho he hs hbase hline) fun σ H Q ⟨ρ, B, s, μ, rl, rs, ot⟩ => by
    refine lift_one (R' := fun x H1 => (∃ a, x = .str a) ∧ lift w W fe σ H1 fun y H2 => ∃ a p, ∃ ys : List Str, x = .str a ∧ [y] = [.ref p] ∧ (SqL X.K H2 p (ys.map V.str) ∨ SqT X.K H2 p (ys.map V.str)) ∧ (ys.map (·.length)).sum + ys.length * a.length ≤ 16777216 ∧ Q (.str (Txt.join a ys)) H2) rl rs ot fun x dx ρ1 B1 H1 μ1 _ rl1 rs1 p o1 => ?_
    cases p with
    | str a =>
      refine ⟨⟨a, rfl⟩, lift_one rl1 rs1 o1 fun y dy ρ2 B2 H2 μ2 _ rl2 rs2 q o2 => ?_⟩
      unfold aJoin at o2
      cases e1 : seqD μ2 dy with
      | none => rw [e1] at o2; exact o2.elim
      | some ds =>
        rw [e1] at o2
        simp only at o2
        obtain ⟨b, vs, rfl, h1, h2⟩ := seqD_ok rl2 q e1
        cases e2 : strsA ds with
        | none => rw [e2] at o2; exact o2.elim
        | some ys =>
          rw [e2] at o2
          obtain ⟨k1, _⟩ := strsA_ok h2 e2
          subst k1
          obtain ⟨hc, o3⟩ := chk_out o2
          rw [Bool.and_eq_true, decide_eq_true_eq] at hc
          have a0 : a.length = 0 := by
            have := hc.1
            cases e3 : sL a with
            | nil => exact congrArg List.length e3
            | cons c r => rw [e3] at this; cases this
          rw [hK] at h1
          refine ⟨a, b, ys, rfl, rfl, h1, by rw [a0, ← catL_len]; omega, ?_⟩
          rw [join_nil hc.1]
          exact out_now rl2 (.str _) o3
    | _ => exact o1.elim
/-! ### text[::-1], the rule -/
theorem r_rev {e : Expr} {f : SE} {k : Nat} {p1 p2 p3 pos : Pos} (he : PE X e (lift w W f)) : PE X (.Subscript e (.Slice none none (some (.UnaryOp .USub (.Constant (.int 1) k p1) p2)) p3) pos) (lift w W (eUn uRev f)) := by
  refine ⟨fun pins s σ H Q I ⟨ρ, B, sl, μ, rl, rs, o⟩ => ?_⟩
  refine Subscript_ (thn (he.run pins s σ H (fun x H1 => ∃ z, x = .str z ∧ z.length ≤ sizeLine ∧ Q (.str (lS (sL z).reverse)) H1) I (lift_one rl rs o fun x dx ρ2 B2 H2 μ2 _ rl2 rs2 p o2 => ?_)) fun v s1 ⟨x, H1, I1, r1, z, ex, hz, q⟩ => ?_)
  · cases p with
    | str z =>
      obtain ⟨hc, o3⟩ := chk_out o2
      exact ⟨z, rfl, of_decide_eq_true hc, out_now rl2 (.str _) o3⟩
    | _ => exact o2.elim
  subst ex
  obtain ⟨t, rfl⟩ := r1
  have step : PO X (some (.UnaryOp .USub (.Constant (.int 1) k p1) p2)) (tPart (tUn (rU fun i => .int (-i)) (tC (.int 1)))) := po_some (pe_un un_neg pe_int)
  refine wpAny_Slice (thn (po_none.run pins s1 σ H1 (fun a G => a = none ∧ G = H1) I1 ⟨rfl, rfl⟩) fun v1 s2 ⟨a1, H2, I2, m1, n1, g1⟩ => ?_)
  subst n1 g1
  refine thn (po_none.run pins s2 σ H2 (fun a G => a = none ∧ G = H2) I2 ⟨rfl, rfl⟩) fun v2 s3 ⟨a2, H3, I3, m2, n2, g2⟩ => ?_
  subst n2 g2
  refine thn (step.run pins s3 σ H3 (fun a G => a = some (-1) ∧ G = H3) I3 ⟨1, rfl, -1, rfl, rfl, rfl⟩) fun v3 s4 ⟨a3, H4, I4, m3, n3, g3⟩ => ?_
  subst n3 g3
  have I5 : Inv X pins σ H4 { s4 with heap := s4.heap.push { cls := .type "slice", data := .fields #[v1, v2, v3] } } := I4.kept (t' := s4.toks) fun b ob q => Heap.get?_push_of_some _ q
  obtain ⟨l, e1, e2⟩ := IsPart.raw m1
  obtain ⟨u, e3, e4⟩ := IsPart.raw m2
  obtain ⟨st, e5, e6⟩ := IsPart.raw m3
  cases l with
  | some _ => cases e2
  | none =>
    cases u with
    | some _ => cases e4
    | none =>
      cases st with
      | none => cases e6
      | some st =>
        obtain ⟨i, tk⟩ := st
        obtain rfl : i = -1 := Option.some.inj e6
        have at5 : ({ s4 with heap := s4.heap.push { cls := .type "slice", data := .fields #[v1, v2, v3] } } : Shared).heap.IsSlice s4.heap.objs.size none none (some (-1, tk)) := ⟨_, Heap.get?_push_size _ rfl, rfl, by rw [e1, e3, e5]⟩
        show wpAny (model X.prog X.w) X.A (subscriptTail e (.Slice none none (some (.UnaryOp .USub (.Constant (.int 1) k p1) p2)) p3) (.str z t) (.ref s4.heap.objs.size)) (EP X pins σ Q) X.xe { s4 with heap := s4.heap.push { cls := .type "slice", data := .fields #[v1, v2, v3] } }
        refine tail_any (ops := [.str z t, .ref s4.heap.objs.size]) (typeIs_str _ z t) (PySem.F.slot_str_getitem.lookup) ?_ (by with_unfolding_all rfl)
        refine wpAny_getItem_str_slice (l := none) (u := none) (st := some (-1, tk)) at5 rfl ?_
        have pick : ((Builtin.Str.strSliceIndices none none (-1) z.length).filterMap (z.cps[·]?)) = (sL z).reverse := by
          rw [show Builtin.Str.strSliceIndices none none (-1) z.length = sliceRange ((z.length : Int) - 1) (-1) (-1) from rfl, krv_sliceRange, krv_range, List.filterMap_reverse]
          exact congrArg List.reverse (krv_all z.cps)
        show Made.post (if ((-1 : Int) == 1 && (Builtin.Str.strSliceIndices none none (-1) z.length).length == z.length) = true then Made.val (.str z t) else Made.str ⟨((Builtin.Str.strSliceIndices none none (-1) z.length).filterMap (z.cps[·]?)).toArray⟩) (EP X pins σ Q) _
        rw [if_neg (by simp), pick]
        exact ⟨by rw [show (⟨(sL z).reverse.toArray⟩ : Str).length = (sL z).reverse.length from by simp [Str.length], List.length_reverse]; exact hz, .str _, H4, I5.tok _, ⟨_, rfl⟩, q⟩
end
end SC

set_option Elab.async false
set_option linter.all false
set_option maxRecDepth 100000
set_option maxHeartbeats 2000000
namespace SC
open PySem PySem.Spec PyProof.Rows L2 LamX NdefX
/-! ### calls with keywords: every parameter is written -/
def pick {α : Type} (ix : List Nat) (ws : List α) : List α := ix.filterMap fun i => ws[i]?
structure KwOk (P : Program) (wd : World) (K : PySem.W.Frag) (mg : Str → Option Value) (base : Heap) (w : Wo) (k : Nat) (x : Str) (n np : Nat) (ks : List Str) (ix : List Nat) (fF : List AD → Store → R AD) : Prop where
  ex : ∃ (f : Addr) (fd : FuncData) (ps : List Str), FnG P wd K mg base (L2.CX P wd) k f fd ps (spF w fF n) ∧ mg x = some (.ref f) ∧ PySem.W.keepIn K (.ref f) = true ∧
    ∀ (s : Shared) (us ws : List Value), us.length = np → ws.length = ks.length → BindsTo s fd ⟨us, ks.zip ws⟩ (ps.zip (us ++ pick ix ws))
section
variable {P : Program} {wd : World} {K : PySem.W.Frag} {mg : Str → Option Value} {base : Heap} {w : Wo} {k : Nat} {x qual : Str} {params : Arguments} {body : List Stmt} {scope : Scope} {f : Addr} {ps : List Str} {m np : Nat} {fF : List AD → Store → R AD}
theorem dok_F (F : ∃ fd, FunD K x qual params body scope [] [] f fd) (hm : mg x = some (.ref f)) (hbi : ∀ (kV doc pm : Value) (an : Option Addr) (cdv ct : Value) (us : List Value), us.length = ps.length → bindArgs (PySem.W.fnOf x qual params body scope .none kV doc pm an cdv ct) ⟨us, []⟩ = pure (ps.zip us))
    (hfn : ∀ fd, FunD K x qual params body scope [] [] f fd → FnG P wd K mg base (L2.CX P wd) k f fd ps (spF w fF m)) : DefOk P wd K mg base w k x m fF := by
  obtain ⟨fd, F⟩ := F
  exact ⟨f, fd, ps, hfn fd F, hm, F.kp, F.bindsN hbi⟩
theorem kw_F {ks : List Str} {ix : List Nat} (F : ∃ fd, FunD K x qual params body scope [] [] f fd) (hm : mg x = some (.ref f))
    (hbi : ∀ (kV doc pm : Value) (an : Option Addr) (cdv ct : Value) (us ws : List Value), us.length = np → ws.length = ks.length → bindArgs (PySem.W.fnOf x qual params body scope .none kV doc pm an cdv ct) ⟨us, ks.zip ws⟩ = pure (ps.zip (us ++ pick ix ws)))
    (hfn : ∀ fd, FunD K x qual params body scope [] [] f fd → FnG P wd K mg base (L2.CX P wd) k f fd ps (spF w fF m)) : KwOk P wd K mg base w k x m np ks ix fF := by
  obtain ⟨fd, F⟩ := F
  refine ⟨f, fd, ps, hfn fd F, hm, F.kp, fun s us ws h1 h2 => ?_⟩
  obtain ⟨oc, od, dV, kV, doc, pm, an, cdv, ct, osl, rfl, lk, hcd, hD, hK⟩ := F.ex
  rcases hD with ⟨_, rfl⟩ | ⟨e, _⟩
  · exact .of_eq (hbi kV doc pm an cdv ct us ws h1 h2)
  · exact absurd rfl e
end
theorem reps_pick {w : Wo} {ρ : List Addr} {B : Hp} {vs : List V} {ds : List AD} (q : Reps w ρ B vs ds) : ∀ ix : List Nat, Reps w ρ B (pick ix vs) (pick ix ds)
  | [] => .nil
  | i :: r => by
    have ih := reps_pick q r
    unfold pick at ih ⊢
    cases e : ds[i]? with
    | none =>
      have e2 : vs[i]? = none := List.getElem?_eq_none_iff.mpr (by rw [q.length]; exact List.getElem?_eq_none_iff.mp e)
      simp only [List.filterMap_cons, e, e2]
      exact ih
    | some d =>
      obtain ⟨v, h1, h2⟩ := q.get e
      simp only [List.filterMap_cons, e, h1]
      exact .cons h2 ih
theorem vals_pick {vs : List V} {us : List Value} (q : Vals vs us) : ∀ ix : List Nat, Vals (pick ix vs) (pick ix us)
  | [] => .nil
  | i :: r => by
    have ih := vals_pick q r
    have at_ : ∀ {vs : List V} {us : List Value}, Vals vs us → ∀ i : Nat, (vs[i]? = none ∧ us[i]? = none) ∨ ∃ v u, vs[i]? = some v ∧ us[i]? = some u ∧ RelV v u := fun {vs us} q => by
      induction q with
      | nil => exact fun i => .inl ⟨by simp, by simp⟩
      | cons r q ih =>
        intro i
        cases i with
        | zero => exact .inr ⟨_, _, rfl, rfl, r⟩
        | succ i => simpa using ih i
    unfold pick at ih ⊢
    rcases at_ q i with ⟨e1, e2⟩ | ⟨v, u, e1, e2, r⟩
    · simp only [List.filterMap_cons, e1, e2]
      exact ih
    · simp only [List.filterMap_cons, e1, e2]
      exact .cons r ih
theorem vals_app {vs zs : List V} {us ws : List Value} (q : Vals vs us) (r : Vals zs ws) : Vals (vs ++ zs) (us ++ ws) := q.append r
def eCallK (n np nk : Nat) (f : List AD → Store → R AD) (ix : List Nat) (fa fk : SA) : SE := fun s μ => (fa s μ).bind fun ds μ1 => (fk s μ1).bind fun zs μ2 => if ds.length = np ∧ zs.length = nk then callP n f (ds ++ pick ix zs) μ2 else .bad
section
variable {X : Cx} {w : Wo} {W : WX}
theorem rk_nil : L2.PK X [] (liftA w W aNil) := ⟨fun pos pins s σ H Q I ⟨ρ, B, sl, μ, rl, rs, o⟩ => pk_nil.run pos pins s σ H Q I (o ρ B H [] (Le.rfl' rl) rl .nil)⟩
theorem rk_cons {e : Expr} {kws : List Keyword} {nm : Option Str} {kpos : Pos} {f : SE} {g : SA} (ha : PE X e (lift w W f)) (hr : L2.PK X kws (liftA w W g)) : L2.PK X (⟨nm, e, kpos⟩ :: kws) (liftA w W (aCons f g)) :=
  ⟨fun pos pins s σ H Q I ⟨ρ, B, sl, μ, rl, rs, o⟩ => (pk_cons ha hr).run pos pins s σ H Q I (by
    refine lift_one rl rs o fun x dx ρ2 B2 H2 μ2 _ rl2 rs2 p o2 => ?_
    refine ⟨ρ2, B2, sl, μ2, rl2, rs2, Out.imp (Out.bind (P := PL w) o2) fun xs H3 ⟨ρ3, B3, ds, μ3, l3, rl3, p3, _, o3⟩ => ?_⟩
    exact o3 ρ3 B3 H3 (x :: xs) (Le.rfl' rl3) rl3 (.cons (Rep.mono l3.ex l3.pre p) p3))⟩
variable {k j n np : Nat} {ks : List Str} {ix : List Nat} {fF : List AD → Store → R AD} {x : Str} {p pos : Pos} {e : Expr} {es : List Expr} {kws : List Keyword} {fa fk : SA} {c : Option (List (Str × Addr))}
theorem d_K (D : KwOk X.prog X.w X.K X.mg X.base w k x n np ks ix fF) (hr : RoomG j X.A) (hj : k ≤ j) (tk : Takes X W) (hw : w.cl = none) (ha : PA X (e :: es) (liftA (w.at' c) W fa)) (hkw : L2.PK X kws (liftA (w.at' c) W fk)) (hg : Gl X x := by rfl)
    (hall : (backToKw pos (keywordEach kws X.env)).all (·.1.isSome) = true := by rfl) (hks : (backToKw pos (keywordEach kws X.env)).filterMap (·.1) = ks := by rfl) (hdb : (x == ("__debug__" : Str)) = false := by decide) (he : starEach (e :: es) X.env = (false, eval e X.env) :: starEach es X.env := by rfl)
    (hpl : ((backTo pos (starEach (e :: es) X.env)).any (·.1) || (backToKw pos (keywordEach kws X.env)).any (·.1.isNone)) = false := by rfl) : PE X (.Call (.Name x p) (e :: es) kws pos) (lift (w.at' c) W (eCallK n np ks.length fF ix fa fk)) := by
  obtain ⟨f, fd, ps, F, hm, hk, hb⟩ := D.ex
  refine ⟨fun pins s σ H Q I ⟨ρ, B, sl, μ, rl, rs, o⟩ => ?_⟩
  refine wpAny_Call_Name_kw (ld_glob I hg hm ?_ hdb)
  refine PySem.W.callWith_KW (h₀ := X.base) I.ok.mod.kin hk hall (thn (ha.run pos pins s σ H (fun vs H1 => ∃ ρ B ds μ, Rl (w.at' c) ρ B μ H1 ∧ RSl (w.at' c) ρ B σ sl ∧ Reps (w.at' c) ρ B vs ds ∧ Out (w.at' c) (fun c d H' => W c d σ H') (PV (w.at' c)) ρ B H1 ((fk sl μ).bind fun zs μ2 => if ds.length = np ∧ zs.length = ks.length then callP n fF (ds ++ pick ix zs) μ2 else .bad) Q) I
    (liftA_k rl rs o fun xs ds ρ2 B2 H2 μ2 _ rl2 rs2 q o2 => ⟨ρ2, B2, ds, μ2, rl2, rs2, q, o2⟩)) fun us s1 ⟨vs, H1, I1, r1, ρ1, B1, ds, μ1, rl1, rs1, p1, o1⟩ => ?_) hpl he
  refine thn (hkw.run pos pins s1 σ H1 (fun zs H2 => vs.length = np ∧ zs.length = ks.length ∧ spF w fF n (vs ++ pick ix zs) H2 Q (WE W σ)) I1 (liftA_k rl1 rs1 o1 fun zs es' ρ2 B2 H2 μ2 l2 rl2 rs2 q o2 => ?_)) fun ws s2 ⟨zs, H2, I2, r2, l1, l2, sp⟩ => ⟨I2.kIn, ?_⟩
  · split at o2
    · rename_i hl
      refine ⟨p1.length.trans hl.1, q.length.trans hl.2, callP_sp (E := WE W σ) hw rl2 ((p1.mono l2.ex l2.pre).append (reps_pick q ix)) o2⟩
    · exact o2.elim
  · rw [hks]
    have hv := vals_app r1 (vals_pick r2 ix)
    refine wpAny_call (codeAny_mono (F.run X.A X.stack s2 H2 ⟨us, ks.zip ws⟩ (us ++ pick ix ws) (vs ++ pick ix zs) Q (WE W σ) (hr.mono' hj) I2.env0 (hb s2 us ws (r1.length.symm.trans l1) (r2.length.symm.trans l2)) hv sp) fun r s' hq => ?_)
    match r, hq with
    | .error e, hq => exact (passAt tk σ) pins H2 s2 e s' I2 hq
    | .ok (.ret u), hq => exact I2.after hq
    | .ok .next, hq => exact False.elim hq
    | .ok .brk, hq => exact False.elim hq
    | .ok .cont, hq => exact False.elim hq
/-! ### sorted(d), the keys texts -/
def keyStrs : List (AD × AD) → Option (List Str)
  | [] => some []
  | (.str k, _) :: r => (match keyStrs r with
    | some l => some (k :: l)
    | none => none)
  | _ => none
def gSortDA : AD → Store → R AD := fun x μ => match dctD μ x with
  | some (_, kvs) => (match keyStrs kvs with
    | some ks => chk (decide (ks.length < 64)) (.ok (.ref μ.length) (μ ++ [.lst ((sortL (ks.map sL)).map fun z => .str (lS z))]))
    | none => .bad)
  | none => gSorted x μ
theorem keyStrs_ok {ρ : List Addr} {B : Hp} : ∀ {ks : List (Key × V)} {kvs : List (AD × AD)} {l : List Str}, KReps w ρ B ks kvs → keyStrs kvs = some l → ks.map (·.1) = l.map Sum.inr
  | [], [], l, _, h => by cases h; rfl
  | [], _ :: _, _, h, _ => h.elim
  | _ :: _, [], _, h, _ => h.elim
  | (k, v) :: r, (a, d) :: s, l, ⟨h1, _, h3⟩, h => by
    cases k with
    | inl i => subst h1; simp [keyStrs, keyAD] at h
    | inr z =>
      subst h1
      simp only [keyAD, keyStrs] at h
      cases e : keyStrs s with
      | none => rw [e] at h; cases h
      | some m =>
        rw [e] at h
        cases h
        rw [List.map_cons, List.map_cons, keyStrs_ok h3 e]
abbrev rSortDA (K : PySem.W.Frag) : List V → Hp → VK → Prop := fun xs H Q => (∃ (a : Addr) (kvs : List (Key × V)) (ks : List Str), xs = [.ref a] ∧ Rd H a (.dK kvs) ∧ kvs.map (·.1) = ks.map Sum.inr ∧ ks.length < 64 ∧ ∀ ys p, ys.Perm ks → sortedS ys = true → H p = none → Q (.ref p) (upd H p (.lst (ys.map V.str)))) ∨ rSortA K xs H Q
theorem cr_sortDA (calm : X.calm = true) : CallR X (.builtin "sorted") (rSortDA X.K) := CallR.or (call_sortedD calm) cr_sortA
theorem s_sortDA : CallS w (rSortDA w.K) (b1 gSortDA) := call1 fun W v d ρ B H μ Q rl p o => by
  unfold gSortDA at o
  cases e : dctD μ d with
  | none => rw [e] at o; exact .inr (s_sorted (w := w) W [v] [d] ρ B H μ Q rl (.cons p .nil) o)
  | some nk =>
    obtain ⟨n, kvs⟩ := nk
    rw [e] at o
    simp only at o
    cases e1 : keyStrs kvs with
    | none => rw [e1] at o; exact o.elim
    | some l =>
      rw [e1] at o
      obtain ⟨hc, o⟩ := chk_out o
      obtain ⟨a, rfl, g1, g2, g3⟩ := dctD_ok rl p e
      rcases g3 with ⟨ks, h1, h2⟩ | ⟨xs, h1, h2, h3, h4⟩
      · refine .inl ⟨a, ks, l, rfl, .inl h1, keyStrs_ok h2 e1, of_decide_eq_true hc, fun ys q hp hs hq => ?_⟩
        have e3 := sorted_uniq hp hs
        have e4 : ys.map AD.str = (sortL (l.map sL)).map fun z => .str (lS z) := by rw [e3, List.map_map]; rfl
        exact own_lst rl (reps_str ys) hq (by rw [e4]; exact o)
      · exfalso
        cases xs with
        | nil => exact h3 rfl
        | cons q r =>
          cases kvs with
          | nil => exact h2
          | cons z s =>
            obtain ⟨m, c, v⟩ := q
            obtain ⟨b, d⟩ := z
            obtain ⟨q1, _⟩ := h2
            cases q1 <;> simp [keyStrs] at e1
end
end SC

set_option Elab.async false
set_option linter.all false
set_option maxRecDepth 100000
set_option maxHeartbeats 2000000
namespace SC
open PySem PySem.Spec PyProof.Rows L2
/-! ### comprehensions whose elements change nothing -/
section
variable {gs : AD → Slots → Option Slots} {tt : ST} {fe : SE} {s : Slots} {μ : Store} {h : AD → AD}
def PureAt (gs : AD → Slots → Option Slots) (tt : ST) (fe : SE) (s : Slots) (μ : Store) (d e : AD) : Prop := ∀ acc : List AD, ∃ s1, gs d s = some s1 ∧ tt s1 (μ ++ [.lst acc]) = .ok true (μ ++ [.lst acc]) ∧ fe s1 (μ ++ [.lst acc]) = .ok e (μ ++ [.lst acc])
theorem lcStep_pure {d e : AD} {acc : List AD} {k : Store → R AD} (H : PureAt gs tt fe s μ d e) (hl : acc.length < 1000000) : lcStep gs tt fe μ.length s d (μ ++ [.lst acc]) k = k (μ ++ [.lst (acc ++ [e])]) := by
  obtain ⟨s1, h1, h2, h3⟩ := H acc
  unfold lcStep
  rw [h1]
  simp only [h2, h3]
  rw [List.getElem?_append_right (Nat.le_refl _), Nat.sub_self]
  show chk (decide (acc.length < sizeLine)) _ = _
  rw [decide_eq_true (by rw [sizeLine_eq]; omega), List.set_append_right _ _ (Nat.le_refl _), Nat.sub_self]
  rfl
theorem lcL_pure : ∀ (ds acc : List AD), (∀ d ∈ ds, PureAt gs tt fe s μ d (h d)) → acc.length + ds.length < 1000000 → lcL gs tt fe μ.length s ds (μ ++ [.lst acc]) = .ok (.ref μ.length) (μ ++ [.lst (acc ++ ds.map h)])
  | [], acc, _, _ => by rw [List.map_nil, List.append_nil]; rfl
  | d :: r, acc, H, hl => by
    unfold lcL
    rw [lcStep_pure (H d (by simp)) (by simp at hl; omega), lcL_pure r (acc ++ [h d]) (fun x hx => H x (by simp [hx])) (by simp at hl ⊢; omega), List.map_cons, List.append_assoc]
    rfl
theorem lcO_pure {m : Nat} {ds : List AD} (hm : μ[m]? = some (.lst ds)) : ∀ (n i k : Nat) (acc : List AD), ds.length = i + n → n < k → (∀ d ∈ ds, PureAt gs tt fe s μ d (h d)) → acc.length + n < 1000000 → lcO gs tt fe μ.length s m k i (μ ++ [.lst acc]) = .ok (.ref μ.length) (μ ++ [.lst (acc ++ (ds.drop i).map h)]) := by
  have lt : m < μ.length := (List.getElem?_eq_some_iff.mp hm).1
  have at_ : ∀ (acc : List AD) (i : Nat), (Src.own m).at (μ ++ [.lst acc]) i = some ds[i]? := fun acc i => by
    show (match (μ ++ [AO.lst acc])[m]? with | some (.lst ds) => some ds[i]? | _ => none) = _
    rw [List.getElem?_append_left lt, hm]
  intro n
  induction n with
  | zero =>
    intro i k acc hl hk H hb
    cases k with
    | zero => omega
    | succ k =>
      unfold lcO
      rw [at_, List.getElem?_eq_none_iff.mpr (by omega), List.drop_eq_nil_iff.mpr (by omega)]
      simp
  | succ n ih =>
    intro i k acc hl hk H hb
    cases k with
    | zero => omega
    | succ k =>
      have hi : i < ds.length := by omega
      unfold lcO
      rw [at_, List.getElem?_eq_getElem hi]
      simp only
      rw [lcStep_pure (H ds[i] (List.getElem_mem _)) (by omega), ih (i + 1) k _ (by omega) (by omega) H (by rw [List.length_append, List.length_singleton]; omega), List.drop_eq_getElem_cons hi, List.map_cons, List.append_assoc]
      rfl
end
theorem blsA_true : ∀ n : Nat, blsA (List.replicate n (.bl true)) = some (List.replicate n true)
  | 0 => rfl
  | n + 1 => by
    show (match blsA (List.replicate n (.bl true)) with | some l => some (true :: l) | none => none) = _
    rw [blsA_true n]
    rfl
theorem allB_true : ∀ n : Nat, allB (List.replicate n true) = true
  | 0 => rfl
  | n + 1 => by show (true && allB (List.replicate n true)) = true; rw [allB_true n]; rfl
/-- all([.. for d in ds]), each element true -/
theorem ev_all {fi : SI} {vs : List Nat} {gs : AD → Slots → Option Slots} {tt : ST} {fe : SE} {s : Slots} {μ μ1 : Store} {ds : List AD} (hi : fi s μ = .ok (.fix ds) μ1) (H : ∀ d ∈ ds, PureAt gs tt fe (wipeS s vs) μ1 d (.bl true)) (hl : ds.length < 1000000) :
    ∃ μ2, eB (b1 (gBls allB)) (aCons (eLc fi vs gs tt fe) aNil) s μ = .ok (.bl true) μ2 := by
  have e1 : eLc fi vs gs tt fe s μ = .ok (.ref μ1.length) (μ1 ++ [.lst ([] ++ ds.map fun _ => .bl true)]) := by
    unfold eLc
    rw [hi]
    exact lcL_pure (h := fun _ => .bl true) ds [] H (by simpa using hl)
  refine ⟨μ1 ++ [.lst (List.replicate ds.length (.bl true))], (ev_b1 (u := gBls allB) e1).trans ?_⟩
  have e2 : ([] ++ ds.map fun _ => AD.bl true) = List.replicate ds.length (.bl true) := by rw [List.nil_append, List.map_const']
  rw [e2]
  have e3 : lstD (μ1 ++ [.lst (List.replicate ds.length (.bl true))]) (.ref μ1.length) = some (List.replicate ds.length (.bl true)) := by
    show (match (μ1 ++ [AO.lst (List.replicate ds.length (.bl true))])[μ1.length]? with | some (.lst ds) => some ds | _ => none) = _
    rw [List.getElem?_append_right (Nat.le_refl _), Nat.sub_self]
    rfl
  unfold gBls
  rw [e3]
  simp only [blsA_true, allB_true]
/-! ### counting dicts -/
abbrev CT := List (List Nat × Int)
def toK (T : CT) : List (AD × AD) := T.map fun p => (.str (lS p.1), .int p.2)
def tLook : CT → List Nat → Option Int
  | [], _ => none
  | (a, v) :: r, k => if eqL a k then some v else tLook r k
def tMap : CT → List Nat → Int → CT
  | [], _, _ => []
  | (a, u) :: r, k, v => (a, if eqL a k then v else u) :: tMap r k v
def tPut (T : CT) (k : List Nat) (v : Int) : CT := match tLook T k with
  | some _ => tMap T k v
  | none => T ++ [(k, v)]
def adI (o : Option Int) : Option AD := match o with
  | some i => some (.int i)
  | none => none
theorem eqK_str (a b : Str) : eqK 8 (.str a) (.str b) = eqL (sL a) (sL b) := rfl
theorem dLook_T (k : List Nat) : ∀ T : CT, dLook (toK T) (.str (lS k)) = adI (tLook T k)
  | [] => rfl
  | (a, v) :: r => by
    show (if eqK 8 (.str (lS a)) (.str (lS k)) then some (AD.int v) else dLook (toK r) (.str (lS k))) = adI (if eqL a k then some v else tLook r k)
    rw [eqK_str, sL_lS, sL_lS, dLook_T k r]
    split <;> rfl
theorem dMap_T (k : List Nat) (v : Int) : ∀ T : CT, dMap (toK T) (.str (lS k)) (.int v) = toK (tMap T k v)
  | [] => rfl
  | (a, u) :: r => by
    show (AD.str (lS a), if eqK 8 (.str (lS a)) (.str (lS k)) then AD.int v else .int u) :: dMap (toK r) (.str (lS k)) (.int v) = (AD.str (lS a), AD.int (if eqL a k then v else u)) :: toK (tMap r k v)
    rw [eqK_str, sL_lS, sL_lS, dMap_T k v r]
    split <;> rfl
theorem dPut_T (T : CT) (k : List Nat) (v : Int) : dPut (toK T) (.str (lS k)) (.int v) = toK (tPut T k v) := by
  unfold dPut tPut
  rw [dLook_T]
  cases tLook T k with
  | none =>
    show toK T ++ [(AD.str (lS k), AD.int v)] = toK (T ++ [(k, v)])
    unfold toK
    rw [List.map_append]
    rfl
  | some u => exact dMap_T k v T
theorem keyOk_T (T : CT) (x : Str) : keyOk (toK T) (.str x) = true := by
  unfold keyOk
  have : (toK T).all (fun p => isFK p.1) = true := List.all_eq_true.mpr fun p hp => by
    obtain ⟨q, _, rfl⟩ := List.mem_map.mp hp
    rfl
  rw [this]
  rfl
theorem shP_T (T : CT) : shP (toK T) = true := by
  unfold shP
  have : (toK T).all (fun p => isS p.1 && isI p.2) = true := List.all_eq_true.mpr fun p hp => by
    obtain ⟨q, _, rfl⟩ := List.mem_map.mp hp
    rfl
  rw [this]
  rfl
theorem keyStrs_T : ∀ T : CT, keyStrs (toK T) = some (T.map fun p => lS p.1)
  | [] => rfl
  | (a, v) :: r => by
    show (match keyStrs (toK r) with | some l => some (lS a :: l) | none => none) = _
    rw [keyStrs_T r]
    rfl
def gt (T : CT) (k : List Nat) : Int := match tLook T k with
  | some v => v
  | none => 0
/-- distinct keys -/
def Dis (T : CT) : Prop := (T.map (·.1)).Nodup
theorem tMap_keys (k : List Nat) (v : Int) : ∀ T : CT, (tMap T k v).map (·.1) = T.map (·.1)
  | [] => rfl
  | (a, u) :: r => by show a :: (tMap r k v).map (·.1) = a :: r.map (·.1); rw [tMap_keys k v r]
theorem tLook_none {k : List Nat} : ∀ {T : CT}, tLook T k = none → k ∉ T.map (·.1)
  | [], _ => by simp
  | (a, v) :: r, h => by
    unfold tLook at h
    split at h
    · cases h
    · rename_i e
      intro hm
      rw [List.map_cons] at hm
      rcases List.mem_cons.mp hm with z | z
      · exact e (eqL_iff.mpr z.symm)
      · exact tLook_none h z
theorem dis_put {T : CT} (d : Dis T) (k : List Nat) (v : Int) : Dis (tPut T k v) := by
  unfold tPut
  cases e : tLook T k with
  | some u => show ((tMap T k v).map (·.1)).Nodup; rw [tMap_keys]; exact d
  | none =>
    show ((T ++ [(k, v)]).map (·.1)).Nodup
    rw [List.map_append]
    refine List.nodup_append.mpr ⟨d, by simp, fun a ha b hb => ?_⟩
    simp at hb
    subst hb
    exact fun z => tLook_none e (z ▸ ha)
theorem put_len (T : CT) (k : List Nat) (v : Int) : (tPut T k v).length ≤ T.length + 1 := by
  unfold tPut
  cases tLook T k with
  | some u =>
    have : (tMap T k v).length = T.length := by
      have := congrArg List.length (tMap_keys k v T)
      rwa [List.length_map, List.length_map] at this
    show (tMap T k v).length ≤ _
    omega
  | none => show (T ++ [(k, v)]).length ≤ _; rw [List.length_append]; exact Nat.le_refl _
/-- the values changed by f -/
def onV (f : Int → Int) (T : CT) : CT := T.map fun p => (p.1, f p.2)
theorem look_onV (f : Int → Int) (k : List Nat) : ∀ T : CT, tLook (onV f T) k = (tLook T k).map f
  | [] => rfl
  | (a, v) :: r => by
    show (if eqL a k then some (f v) else tLook (onV f r) k) = (if eqL a k then some v else tLook r k).map f
    rw [look_onV f k r]
    split <;> rfl
theorem put_onV (f : Int → Int) (T : CT) (k : List Nat) (v : Int) : tPut (onV f T) k (f v) = onV f (tPut T k v) := by
  unfold tPut
  rw [look_onV]
  cases tLook T k with
  | none => show onV f T ++ [(k, f v)] = onV f (T ++ [(k, v)]); unfold onV; rw [List.map_append]; rfl
  | some u =>
    show tMap (onV f T) k (f v) = onV f (tMap T k v)
    induction T with
    | nil => rfl
    | cons p r ih =>
      obtain ⟨a, u⟩ := p
      show (a, if eqL a k then f v else f u) :: tMap (onV f r) k (f v) = (a, f (if eqL a k then v else u)) :: onV f (tMap r k v)
      rw [ih]
      split <;> rfl
/-! ### sorted -/
def insT (x : List Nat × Int) : CT → CT
  | [] => [x]
  | y :: r => if ltL y.1 x.1 then y :: insT x r else x :: y :: r
def sortT : CT → CT
  | [] => []
  | x :: r => insT x (sortT r)
theorem insT_keys (x : List Nat × Int) : ∀ T : CT, (insT x T).map (·.1) = insL x.1 (T.map (·.1))
  | [] => rfl
  | y :: r => by
    show (if ltL y.1 x.1 then y :: insT x r else x :: y :: r).map (·.1) = if ltL y.1 x.1 then y.1 :: insL x.1 (r.map (·.1)) else x.1 :: y.1 :: r.map (·.1)
    split
    · rw [List.map_cons, insT_keys x r]
    · rfl
theorem sortT_keys : ∀ T : CT, (sortT T).map (·.1) = sortL (T.map (·.1))
  | [] => rfl
  | x :: r => by show (insT x (sortT r)).map (·.1) = insL x.1 (sortL (r.map (·.1))); rw [insT_keys, sortT_keys r]
theorem insT_mem (x : List Nat × Int) : ∀ (T : CT) (p : List Nat × Int), p ∈ insT x T ↔ p = x ∨ p ∈ T
  | [], p => by simp [insT]
  | y :: r, p => by
    unfold insT
    split
    · rw [List.mem_cons, insT_mem x r p, List.mem_cons]
      exact ⟨fun h => by rcases h with h | h | h <;> simp [h], fun h => by rcases h with h | h | h <;> simp [h]⟩
    · rw [List.mem_cons]
theorem sortT_mem : ∀ (T : CT) (p : List Nat × Int), p ∈ sortT T ↔ p ∈ T
  | [], p => by simp [sortT]
  | x :: r, p => by show p ∈ insT x (sortT r) ↔ _; rw [insT_mem, sortT_mem r p, List.mem_cons]
theorem sortT_onV (f : Int → Int) : ∀ T : CT, sortT (onV f T) = onV f (sortT T)
  | [] => rfl
  | x :: r => by
    show insT (x.1, f x.2) (sortT (onV f r)) = onV f (insT x (sortT r))
    rw [sortT_onV f r]
    generalize sortT r = l
    induction l with
    | nil => rfl
    | cons y l ih =>
      show (if ltL y.1 x.1 then (y.1, f y.2) :: insT (x.1, f x.2) (onV f l) else (x.1, f x.2) :: (y.1, f y.2) :: onV f l) = onV f (if ltL y.1 x.1 then y :: insT x l else x :: y :: l)
      split
      · rw [ih]; rfl
      · rfl
theorem ltL_tri (a b : List Nat) (h1 : ltL a b = false) (h2 : ltL b a = false) : a = b := by
  induction a generalizing b with
  | nil =>
    cases b with
    | nil => rfl
    | cons c s => simp [ltL] at h1
  | cons c r ih =>
    cases b with
    | nil => simp [ltL] at h2
    | cons d s =>
      simp only [ltL, Bool.or_eq_false_iff, Bool.and_eq_false_iff, Nat.blt_eq] at h1 h2
      have n1 : ¬ c < d := fun z => by have y := h1.1; rw [show Nat.blt c d = true by rw [Nat.blt_eq]; exact z] at y; cases y
      have n2 : ¬ d < c := fun z => by have y := h2.1; rw [show Nat.blt d c = true by rw [Nat.blt_eq]; exact z] at y; cases y
      have e : c = d := by omega
      subst e
      have b1 : Nat.beq c c = true := Nat.beq_refl c
      rcases h1.2 with z | z
      · rw [b1] at z; cases z
      · rcases h2.2 with y | y
        · rw [b1] at y; cases y
        · rw [ih s z y]
theorem ltP_key {a b : List Nat} {u v : Int} (h : a ≠ b) : ltP (.str (lS a), .int u) (.str (lS b), .int v) = ltL a b := by
  unfold ltP
  show (ltL (sL (lS a)) (sL (lS b)) || (!ltL (sL (lS b)) (sL (lS a)) && decide (u < v))) = ltL a b
  rw [sL_lS, sL_lS]
  cases e1 : ltL a b with
  | true => rfl
  | false =>
    cases e2 : ltL b a with
    | true => rfl
    | false => exact absurd (ltL_tri a b e1 e2) h
theorem insP_T (x : List Nat × Int) : ∀ T : CT, x.1 ∉ T.map (·.1) → insP (.str (lS x.1), .int x.2) (toK T) = toK (insT x T)
  | [], _ => rfl
  | y :: r, h => by
    rw [List.map_cons, List.mem_cons, not_or] at h
    show (if ltP (.str (lS y.1), .int y.2) (.str (lS x.1), .int x.2) then (AD.str (lS y.1), AD.int y.2) :: insP (.str (lS x.1), .int x.2) (toK r) else (.str (lS x.1), .int x.2) :: (.str (lS y.1), .int y.2) :: toK r) = toK (if ltL y.1 x.1 then y :: insT x r else x :: y :: r)
    rw [ltP_key (Ne.symm h.1), insP_T x r h.2]
    split <;> rfl
theorem sortP_T : ∀ T : CT, Dis T → sortP (toK T) = toK (sortT T)
  | [], _ => rfl
  | x :: r, d => by
    have d' : x.1 ∉ r.map (·.1) ∧ (r.map (·.1)).Nodup := List.nodup_cons.mp d
    show insP (.str (lS x.1), .int x.2) (sortP (toK r)) = toK (insT x (sortT r))
    rw [sortP_T r d'.2, insP_T x (sortT r)]
    intro hm
    obtain ⟨p, hp, e⟩ := List.mem_map.mp hm
    exact d'.1 (e ▸ List.mem_map.mpr ⟨p, (sortT_mem r p).mp hp, rfl⟩)
theorem gt_mem : ∀ {T : CT}, Dis T → ∀ p ∈ T, gt T p.1 = p.2
  | [], _, p, h => by simp at h
  | (a, v) :: r, d, p, h => by
    have d' : a ∉ r.map (·.1) ∧ (r.map (·.1)).Nodup := List.nodup_cons.mp d
    rcases List.mem_cons.mp h with z | z
    · subst z
      show (match (if eqL a a then some v else tLook r a) with | some v => v | none => 0) = v
      rw [eqL_iff.mpr rfl]
      rfl
    · have ne : a ≠ p.1 := fun e => d'.1 (e ▸ List.mem_map.mpr ⟨p, z, rfl⟩)
      have : eqL a p.1 = false := by
        cases e : eqL a p.1 with
        | true => exact absurd (eqL_iff.mp e) ne
        | false => rfl
      show (match (if eqL a p.1 then some v else tLook r p.1) with | some v => v | none => 0) = p.2
      rw [this]
      exact gt_mem d'.2 p z
/-- the items of onV f T, sorted, are the keys of T, sorted, with their values -/
theorem items_T (f : Int → Int) (T : CT) (d : Dis T) : ((sortP (toK (onV f T))).map fun p => AD.tup [p.1, p.2]) = (sortL (T.map (·.1))).map fun k => .tup [.str (lS k), .int (f (gt T k))] := by
  have dv : Dis (onV f T) := by
    have e : (onV f T).map (·.1) = T.map (·.1) := by unfold onV; rw [List.map_map]; rfl
    show ((onV f T).map (·.1)).Nodup
    rw [e]; exact d
  rw [sortP_T _ dv, sortT_onV, ← sortT_keys, List.map_map]
  show ((onV f (sortT T)).map fun p => (AD.str (lS p.1), AD.int p.2)).map (fun p => AD.tup [p.1, p.2]) = _
  unfold onV
  rw [List.map_map, List.map_map]
  refine List.map_congr_left fun p hp => ?_
  show AD.tup [.str (lS p.1), .int (f p.2)] = .tup [.str (lS p.1), .int (f (gt T p.1))]
  rw [gt_mem d p ((sortT_mem T p).mp hp)]
theorem get_T {T : CT} {k : List Nat} (h : k ∈ T.map (·.1)) : dLook (toK T) (.str (lS k)) = some (.int (gt T k)) := by
  rw [dLook_T]
  cases e : tLook T k with
  | none => exact absurd h (tLook_none e)
  | some v =>
    show some (AD.int v) = some (.int (gt T k))
    unfold gt
    rw [e]
theorem sortL_mem (l : List (List Nat)) (k : List Nat) : k ∈ sortL l ↔ k ∈ l := (sortL_perm l).mem_iff
/-! ### repr(a) == repr(b) as a test -/
section
variable {X : Cx} {w : Wo} {W : WX} {a b : Expr} {fa fb : SE} {p1 p2 p3 p4 pos : Pos}
theorem liftT_tV {f : SE} {σ : L2.St} {H : Hp} {Q : Bool → Hp → Prop} (hq : liftT w W (tV f) σ H Q) : lift w W f σ H fun x H' => ∃ k, x = .bl k ∧ Q k H' := by
  obtain ⟨ρ, B, s, μ, rl, rs, o⟩ := hq
  exact lift_one rl rs o fun x dx ρ2 B2 H2 μ2 _ rl2 rs2 p o2 => by
    cases p with
    | bl b => exact ⟨b, rfl, o2 _ _ _ b (Le.rfl' rl2) rl2 rfl⟩
    | _ => exact o2.elim
theorem rt_repEq (hgd : X.A.guards = some []) (hu : X.A.units + 64 < cLine) (hg : Gl X "repr") (hm : X.mg "repr" = none) (ha : PE X a (lift w W fa)) (hb : PE X b (lift w W fb)) (hK : w.K = X.K := by rfl)
    (h1 : starEach [a] X.env = (false, eval a X.env) :: starEach [] X.env := by rfl) (h2 : starEach [b] X.env = (false, eval b X.env) :: starEach [] X.env := by rfl) :
    PT X (.Compare (.Call (.Name "repr" p1) [a] [] p2) [.Eq] [.Call (.Name "repr" p3) [b] [] p4] pos) (liftT w W (tV (eRep true fa fb))) :=
  PT_imp (pt_cmpR op_eq (pe_callB (call_reprD hgd hu) hg hm rfl (pa_cons ha pa_nil h1) (by decide) (by decide) h1 (by rfl)) (pe_callB (call_reprD hgd hu) hg hm rfl (pa_cons hb pa_nil h2) (by decide) (by decide) h2 (by rfl)) (nomark _)) fun σ H Q h =>
    lift_rep hK (fun z H' Q' q => ⟨rfl, by rw [decide_eq_true rfl]; exact q⟩) (liftT_tV h)
theorem rt_repNe (hgd : X.A.guards = some []) (hu : X.A.units + 64 < cLine) (hg : Gl X "repr") (hm : X.mg "repr" = none) (ha : PE X a (lift w W fa)) (hb : PE X b (lift w W fb)) (hK : w.K = X.K := by rfl)
    (h1 : starEach [a] X.env = (false, eval a X.env) :: starEach [] X.env := by rfl) (h2 : starEach [b] X.env = (false, eval b X.env) :: starEach [] X.env := by rfl) :
    PT X (.Compare (.Call (.Name "repr" p1) [a] [] p2) [.NotEq] [.Call (.Name "repr" p3) [b] [] p4] pos) (liftT w W (tV (eRep false fa fb))) :=
  PT_imp (pt_cmpR op_ne (pe_callB (call_reprD hgd hu) hg hm rfl (pa_cons ha pa_nil h1) (by decide) (by decide) h1 (by rfl)) (pe_callB (call_reprD hgd hu) hg hm rfl (pa_cons hb pa_nil h2) (by decide) (by decide) h2 (by rfl)) (nomark _)) fun σ H Q h =>
    lift_rep hK (fun z H' Q' q => ⟨rfl, by rw [decide_eq_true rfl]; exact q⟩) (liftT_tV h)
end
/-! ### list(x) that is never changed -/
section
variable {w : Wo}
def gListF : AD → Store → R AD := fun x μ => match x with
  | .str z => chk (decide ((sL z).length ≤ sizeLine)) (.ok (.lst (chars (sL z))) μ)
  | x => (match seqD μ x with
    | some es => .ok (.lst es) μ
    | none => .bad)
theorem known_lst {W : Value → Option Addr → Hp → Prop} {ρ : List Addr} {B H : Hp} {μ : Store} {xs : List V} {ds : List AD} {a : Addr} {Q : VK} (rl : Rl w ρ B μ H) (p : Reps w ρ B xs ds) (ha : H a = none) (o : Out w W (PV w) ρ B H (.ok (.lst ds) μ) Q) : Q (.ref a) (upd H a (.lst xs)) := by
  obtain ⟨k1, k2⟩ := rl.known (o := .lst xs) ha
  exact o _ _ _ _ k2 k1 (.lst upd_same (p.mono k2.ex k2.pre))
theorem s_listF : CallS w (rListA w.K) (b1 gListF) := call1 fun W v d ρ B H μ Q rl p o => by
  cases d with
  | str z =>
    cases p
    obtain ⟨hc, o⟩ := chk_out o
    exact .inr ⟨z, rfl, of_decide_eq_true hc, fun l hl => known_lst rl (reps_chars (sL z)) hl o⟩
  | _ =>
    unfold gListF at o
    simp only at o
    split at o
    · rename_i es e
      obtain ⟨a, vs, rfl, h1, h2⟩ := seqD_ok rl p e
      exact .inl ⟨a, vs, rfl, h1, fun l hl => known_lst rl h2 hl o⟩
    · exact o.elim
end
/-! ### comprehensions, whole -/
section
variable {fi : SI} {vs : List Nat} {gs : AD → Slots → Option Slots} {tt : ST} {fe : SE} {s : Slots} {μ μ1 : Store} {ds : List AD} {h : AD → AD} {m : Nat}
theorem ev_lcO (hi : fi s μ = .ok (.own m) μ1) (hm : μ1[m]? = some (.lst ds)) (H : ∀ d ∈ ds, PureAt gs tt fe (wipeS s vs) μ1 d (h d)) (hl : ds.length < 1000000) : eLc fi vs gs tt fe s μ = .ok (.ref μ1.length) (μ1 ++ [.lst (ds.map h)]) := by
  unfold eLc
  rw [hi]
  have q := lcO_pure (gs := gs) (tt := tt) (fe := fe) (s := wipeS s vs) (μ := μ1) (h := h) hm ds.length 0 fuel [] (by omega) (by show ds.length < 1000000000; omega) H (by rw [List.length_nil]; omega)
  rw [List.drop_zero, List.nil_append] at q
  exact q
theorem ev_lcL (hi : fi s μ = .ok (.fix ds) μ1) (H : ∀ d ∈ ds, PureAt gs tt fe (wipeS s vs) μ1 d (h d)) (hl : ds.length < 1000000) : eLc fi vs gs tt fe s μ = .ok (.ref μ1.length) (μ1 ++ [.lst (ds.map h)]) := by
  unfold eLc
  rw [hi]
  exact lcL_pure ds [] H (by rw [List.length_nil]; omega)
end
end SC

set_option Elab.async false
set_option linter.all false
set_option maxRecDepth 100000
set_option maxHeartbeats 0
namespace G
open PySem PySem.Spec PyProof.Rows L2 LamX NdefX SC
def top (i : Nat) : Stmt := PySem.Challenge.pw_kindsofsaying_k13_looks_of_words.main.body.getD i (.Pass ⟨0, 0, 0, 0⟩)
abbrev s__law_cells : Stmt := top 49
abbrev s__law_pot : Stmt := top 46
abbrev s__law_take : Stmt := top 47
abbrev s__law_drawn : Stmt := top 53
abbrev s_is_rising : Stmt := top 13
abbrev s_is_letters : Stmt := top 14
abbrev s_look_at_letters : Stmt := top 15
abbrev s_is_int : Stmt := top 11
abbrev s_look_at_number : Stmt := top 12
abbrev s_is_word : Stmt := top 16
abbrev s_look_at_word : Stmt := top 17
abbrev s_look_of : Stmt := top 30
abbrev s_told_look : Stmt := top 31
abbrev s_same_look : Stmt := top 33
abbrev s_is_state : Stmt := top 20
abbrev s_is_machine : Stmt := top 21
abbrev s_look_at_machine : Stmt := top 22
abbrev s_look_at_both : Stmt := top 38
abbrev s_by_looks : Stmt := top 39
abbrev s_shows_by_looks : Stmt := top 41
abbrev s__law_heard : Stmt := top 50
abbrev s__law_of : Stmt := top 48
abbrev s__law_are_refused : Stmt := top 56
abbrev s__law_drawn_word : Stmt := top 54
abbrev s__law_is_bool : Stmt := top 51
abbrev s__law_letters : Stmt := top 52
abbrev s__law_look : Stmt := top 55
abbrev s__law_right : Stmt := top 57
abbrev s_law : Stmt := top 58
def cls : List Str := ["BadLetters", "BadWord", "BadNumber", "BadMachine"]
def used : List Str := ["BadLetters", "BadWord", "BadNumber"]
def tf : List He.Defn := [("_law_are_refused", none)]
def file : Str := PySem.Challenge.pw_kindsofsaying_k13_looks_of_words.main.file
def lamd : Nat → LamD
  | 0 => lamM s__law_are_refused "_law_are_refused" 0 (["odd"] : List Str)
  | 1 => lamM s__law_are_refused "_law_are_refused" 1 (["odd"] : List Str)
  | 2 => lamM s__law_are_refused "_law_are_refused" 2 (["letters", "odd"] : List Str)
  | 3 => lamM s__law_are_refused "_law_are_refused" 3 (["letters", "odd"] : List Str)
  | 4 => lamM s__law_are_refused "_law_are_refused" 4 (["letters", "odd"] : List Str)
  | 5 => lamM s__law_are_refused "_law_are_refused" 5 (["letters", "odd"] : List Str)
  | 6 => lamM s__law_are_refused "_law_are_refused" 6 (["letters", "odd"] : List Str)
  | 7 => lamM s__law_are_refused "_law_are_refused" 7 (["machine", "odd"] : List Str)
  | 8 => lamM s__law_are_refused "_law_are_refused" 8 (["machine", "odd"] : List Str)
  | 9 => lamM s__law_are_refused "_law_are_refused" 9 (["machine", "odd"] : List Str)
  | 10 => lamM s__law_are_refused "_law_are_refused" 10 (["machine", "odd"] : List Str)
  | _ => lamM s_law "" 0 []
abbrev wo (P : Program) (wd : World) (K : PySem.W.Frag) : Wo := ⟨K, P, wd, lamd, tabsT K tf, none, He.ga K⟩
structure Bu (P : Program) (wd : World) (K : PySem.W.Frag) (mg : Str → Option Value) (base : Heap) : Prop where
  x : ExP K file cls used tf
  bt : SCX.BaseT P K mg (pD K) (pI K)
  tb : ∀ p ∈ tf, TabB base mg (He.cT K p).1 (He.cT K p).2
  g_PieceError : mg "PieceError" = some (.ref (He.ga K "PieceError"))
  g_BadLetters : mg "BadLetters" = some (.ref (He.ga K "BadLetters"))
  g_BadWord : mg "BadWord" = some (.ref (He.ga K "BadWord"))
  g_BadNumber : mg "BadNumber" = some (.ref (He.ga K "BadNumber"))
  g_BadMachine : mg "BadMachine" = some (.ref (He.ga K "BadMachine"))
  n_abs : mg "abs" = none
  n_all : mg "all" = none
  n_bool : mg "bool" = none
  n_int : mg "int" = none
  n_isinstance : mg "isinstance" = none
  n_len : mg "len" = none
  n_list : mg "list" = none
  n_max : mg "max" = none
  n_min : mg "min" = none
  n_range : mg "range" = none
  n_repr : mg "repr" = none
  n_sorted : mg "sorted" = none
  n_str : mg "str" = none
  n_sum : mg "sum" = none
  n_tuple : mg "tuple" = none
  n_zip : mg "zip" = none
  c_MOST_K : ∃ t, mg "MOST_K" = some (.int 6 t)
  c_MOST_LETTERS : ∃ t, mg "MOST_LETTERS" = some (.int 3 t)
  c_MOST_STATES : ∃ t, mg "MOST_STATES" = some (.int 200 t)
  c_MOST_T : ∃ t, mg "MOST_T" = some (.int 6 t)
  c_MOST_WORD : ∃ t, mg "MOST_WORD" = some (.int 5000 t)
  c_SIGNS : ∃ t, mg "SIGNS" = some (.str ("abcdefghijklmnopqrstuvwxyz" : Str) t)
  f__law_cells : ∃ fd, FunD K "_law_cells" "_law_cells" (defArgs s__law_cells) (defBody s__law_cells) (defScope s__law_cells) [] [] (He.fAd K ("_law_cells", none)) fd
  g__law_cells : mg "_law_cells" = some (.ref (He.fAd K ("_law_cells", none)))
  f__law_pot : ∃ fd, FunD K "_law_pot" "_law_pot" (defArgs s__law_pot) (defBody s__law_pot) (defScope s__law_pot) [] [] (He.fAd K ("_law_pot", none)) fd
  g__law_pot : mg "_law_pot" = some (.ref (He.fAd K ("_law_pot", none)))
  f__law_take : ∃ fd, FunD K "_law_take" "_law_take" (defArgs s__law_take) (defBody s__law_take) (defScope s__law_take) [] [] (He.fAd K ("_law_take", none)) fd
  g__law_take : mg "_law_take" = some (.ref (He.fAd K ("_law_take", none)))
  f__law_drawn : ∃ fd, FunD K "_law_drawn" "_law_drawn" (defArgs s__law_drawn) (defBody s__law_drawn) (defScope s__law_drawn) [] [] (He.fAd K ("_law_drawn", none)) fd
  g__law_drawn : mg "_law_drawn" = some (.ref (He.fAd K ("_law_drawn", none)))
  f_is_rising : ∃ fd, FunD K "is_rising" "is_rising" (defArgs s_is_rising) (defBody s_is_rising) (defScope s_is_rising) [] [] (He.fAd K ("is_rising", none)) fd
  g_is_rising : mg "is_rising" = some (.ref (He.fAd K ("is_rising", none)))
  f_is_letters : ∃ fd, FunD K "is_letters" "is_letters" (defArgs s_is_letters) (defBody s_is_letters) (defScope s_is_letters) [] [] (He.fAd K ("is_letters", none)) fd
  g_is_letters : mg "is_letters" = some (.ref (He.fAd K ("is_letters", none)))
  f_look_at_letters : ∃ fd, FunD K "look_at_letters" "look_at_letters" (defArgs s_look_at_letters) (defBody s_look_at_letters) (defScope s_look_at_letters) [] [] (He.fAd K ("look_at_letters", none)) fd
  g_look_at_letters : mg "look_at_letters" = some (.ref (He.fAd K ("look_at_letters", none)))
  f_is_int : ∃ fd, FunD K "is_int" "is_int" (defArgs s_is_int) (defBody s_is_int) (defScope s_is_int) [] [] (He.fAd K ("is_int", none)) fd
  g_is_int : mg "is_int" = some (.ref (He.fAd K ("is_int", none)))
  f_look_at_number : ∃ fd, FunD K "look_at_number" "look_at_number" (defArgs s_look_at_number) (defBody s_look_at_number) (defScope s_look_at_number) [] [] (He.fAd K ("look_at_number", none)) fd
  g_look_at_number : mg "look_at_number" = some (.ref (He.fAd K ("look_at_number", none)))
  f_is_word : ∃ fd, FunD K "is_word" "is_word" (defArgs s_is_word) (defBody s_is_word) (defScope s_is_word) [] [] (He.fAd K ("is_word", none)) fd
  g_is_word : mg "is_word" = some (.ref (He.fAd K ("is_word", none)))
  f_look_at_word : ∃ fd, FunD K "look_at_word" "look_at_word" (defArgs s_look_at_word) (defBody s_look_at_word) (defScope s_look_at_word) [] [] (He.fAd K ("look_at_word", none)) fd
  g_look_at_word : mg "look_at_word" = some (.ref (He.fAd K ("look_at_word", none)))
  f_look_of : ∃ fd, FunD K "look_of" "look_of" (defArgs s_look_of) (defBody s_look_of) (defScope s_look_of) [] [] (He.fAd K ("look_of", none)) fd
  g_look_of : mg "look_of" = some (.ref (He.fAd K ("look_of", none)))
  f_told_look : ∃ fd, FunD K "told_look" "told_look" (defArgs s_told_look) (defBody s_told_look) (defScope s_told_look) [] [] (He.fAd K ("told_look", none)) fd
  g_told_look : mg "told_look" = some (.ref (He.fAd K ("told_look", none)))
  f_same_look : ∃ fd, FunD K "same_look" "same_look" (defArgs s_same_look) (defBody s_same_look) (defScope s_same_look) [] [] (He.fAd K ("same_look", none)) fd
  g_same_look : mg "same_look" = some (.ref (He.fAd K ("same_look", none)))
  f_is_state : ∃ fd, FunD K "is_state" "is_state" (defArgs s_is_state) (defBody s_is_state) (defScope s_is_state) [] [] (He.fAd K ("is_state", none)) fd
  g_is_state : mg "is_state" = some (.ref (He.fAd K ("is_state", none)))
  f_is_machine : ∃ fd, FunD K "is_machine" "is_machine" (defArgs s_is_machine) (defBody s_is_machine) (defScope s_is_machine) [] [] (He.fAd K ("is_machine", none)) fd
  g_is_machine : mg "is_machine" = some (.ref (He.fAd K ("is_machine", none)))
  f_look_at_machine : ∃ fd, FunD K "look_at_machine" "look_at_machine" (defArgs s_look_at_machine) (defBody s_look_at_machine) (defScope s_look_at_machine) [] [] (He.fAd K ("look_at_machine", none)) fd
  g_look_at_machine : mg "look_at_machine" = some (.ref (He.fAd K ("look_at_machine", none)))
  f_look_at_both : ∃ fd, FunD K "look_at_both" "look_at_both" (defArgs s_look_at_both) (defBody s_look_at_both) (defScope s_look_at_both) [] [] (He.fAd K ("look_at_both", none)) fd
  g_look_at_both : mg "look_at_both" = some (.ref (He.fAd K ("look_at_both", none)))
  f_by_looks : ∃ fd, FunD K "by_looks" "by_looks" (defArgs s_by_looks) (defBody s_by_looks) (defScope s_by_looks) [] [] (He.fAd K ("by_looks", none)) fd
  g_by_looks : mg "by_looks" = some (.ref (He.fAd K ("by_looks", none)))
  f_shows_by_looks : ∃ fd, FunD K "shows_by_looks" "shows_by_looks" (defArgs s_shows_by_looks) (defBody s_shows_by_looks) (defScope s_shows_by_looks) [] [] (He.fAd K ("shows_by_looks", none)) fd
  g_shows_by_looks : mg "shows_by_looks" = some (.ref (He.fAd K ("shows_by_looks", none)))
  f__law_heard : ∃ fd, FunD K "_law_heard" "_law_heard" (defArgs s__law_heard) (defBody s__law_heard) (defScope s__law_heard) [] [] (He.fAd K ("_law_heard", none)) fd
  g__law_heard : mg "_law_heard" = some (.ref (He.fAd K ("_law_heard", none)))
  f__law_of : ∃ fd, FunD K "_law_of" "_law_of" (defArgs s__law_of) (defBody s__law_of) (defScope s__law_of) [] [] (He.fAd K ("_law_of", none)) fd
  g__law_of : mg "_law_of" = some (.ref (He.fAd K ("_law_of", none)))
  f__law_are_refused : ∃ fd, FunD K "_law_are_refused" "_law_are_refused" (defArgs s__law_are_refused) (defBody s__law_are_refused) (defScope s__law_are_refused) [] [] (He.fAd K ("_law_are_refused", none)) fd
  g__law_are_refused : mg "_law_are_refused" = some (.ref (He.fAd K ("_law_are_refused", none)))
  f__law_drawn_word : ∃ fd, FunD K "_law_drawn_word" "_law_drawn_word" (defArgs s__law_drawn_word) (defBody s__law_drawn_word) (defScope s__law_drawn_word) [] [] (He.fAd K ("_law_drawn_word", none)) fd
  g__law_drawn_word : mg "_law_drawn_word" = some (.ref (He.fAd K ("_law_drawn_word", none)))
  f__law_is_bool : ∃ fd, FunD K "_law_is_bool" "_law_is_bool" (defArgs s__law_is_bool) (defBody s__law_is_bool) (defScope s__law_is_bool) [] [] (He.fAd K ("_law_is_bool", none)) fd
  g__law_is_bool : mg "_law_is_bool" = some (.ref (He.fAd K ("_law_is_bool", none)))
  f__law_letters : ∃ fd, FunD K "_law_letters" "_law_letters" (defArgs s__law_letters) (defBody s__law_letters) (defScope s__law_letters) [] [] (He.fAd K ("_law_letters", none)) fd
  g__law_letters : mg "_law_letters" = some (.ref (He.fAd K ("_law_letters", none)))
  f__law_look : ∃ fd, FunD K "_law_look" "_law_look" (defArgs s__law_look) (defBody s__law_look) (defScope s__law_look) [] [] (He.fAd K ("_law_look", none)) fd
  g__law_look : mg "_law_look" = some (.ref (He.fAd K ("_law_look", none)))
  f__law_right : ∃ fd, FunD K "_law_right" "_law_right" (defArgs s__law_right) (defBody s__law_right) (defScope s__law_right) [] [] (He.fAd K ("_law_right", none)) fd
  g__law_right : mg "_law_right" = some (.ref (He.fAd K ("_law_right", none)))
  f_law : ∃ fd, FunD K "law" "law" (defArgs s_law) (defBody s_law) (defScope s_law) [] [] (He.fAd K ("law", none)) fd
  g_law : mg "law" = some (.ref (He.fAd K ("law", none)))
variable {P : Program} {wd : World} {K : PySem.W.Frag} {mg : Str → Option Value} {base : Heap}
theorem sc__law_cells : FnScope (["script", "most"] : List Str) (["script", "most"] : List Str) (defScope s__law_cells) := ⟨rfl, rfl, rfl, by decide +kernel, rfl, by decide +kernel, by decide +kernel⟩
def b__law_cells : SS := (sRet (eLr1 (eB (bb gMax) (aCons (eC (.int 1)) (aCons (eB (bb gMin) (aCons (eVar 1) (aCons (eB (b1 gLen) (aCons (eVar 0) aNil)) aNil))) aNil)))))
def f__law_cells : List AD → Store → R AD := fnF 2 b__law_cells
theorem fn__law_cells (B : Bu P wd K mg base) {f : Addr} {fd : FuncData} (F : FunD K "_law_cells" "_law_cells" (defArgs s__law_cells) (defBody s__law_cells) (defScope s__law_cells) [] [] f fd) : FnG P wd K mg base (L2.CX P wd) 1 f fd (["script", "most"] : List Str) (spF (wo P wd K) f__law_cells 2) :=
  fn_scD F sc__law_cells rfl rfl fun cdv A outer s H E hr =>
    (rss_one (rs_ret (r_lr1 rfl rfl B.n_list rfl B.n_range (r_callB (call_max2 rfl) s_max rfl B.n_max rfl (ra_cons r_int (ra_cons (r_callB (call_min2 rfl) s_min rfl B.n_min rfl (ra_cons (rv 1) (ra_cons (r_callB call_len s_len rfl B.n_len rfl (ra_cons (rv 0) ra_nil)) ra_nil))) ra_nil))))))
theorem ok__law_cells (B : Bu P wd K mg base) : DefOk P wd K mg base (wo P wd K) 1 "_law_cells" 2 f__law_cells :=
  dok_F B.f__law_cells B.g__law_cells (fun _ _ _ _ _ _ us hl => match us, hl with | [_, _], _ => rfl) fun fd F => fn__law_cells B F
theorem sc__law_pot : FnScope (["script", "place", "cell", "own", "small"] : List Str) (["script", "place"] : List Str) (defScope s__law_pot) := ⟨rfl, rfl, rfl, by decide +kernel, rfl, by decide +kernel, by decide +kernel⟩
def b__law_pot : SS := (sSeq (sSet 2 (eIf (tV (eOp aLt (eVar 1) (eB (b1 gLen) (aCons (eVar 0) aNil)))) (eOp aIxD (eVar 0) (eVar 1)) (eOp aAdd (eOp aAdd (eOp aMod (eB (b1 gInt) (aCons (eB (b1 gSum) (aCons (eSl (eVar 0) oNo (oSo (eC (.int 1)))) aNil)) aNil)) (eC (.int 1000117))) (eOp aMul (eC (.int 4723)) (eVar 1))) (eC (.int 3119))))) (sSeq (sSet 3 (eOp aMul (eOp aMod (eB (b1 gInt) (aCons (eB (b1 gAbs) (aCons (eVar 2) aNil)) aNil)) (eOp aPow (eOp aPow (eC (.int 10)) (eC (.int 60))) (eC (.int 5)))) (eB (b1 gInt) (aCons (eOp aGe (eB (b1 gAbs) (aCons (eVar 2) aNil)) (eOp aPow (eC (.int 10)) (eC (.int 18)))) aNil)))) (sSeq (sSet 4 (eOp aMod (eB (b1 gInt) (aCons (eVar 2) aNil)) (eC (.int 2305843009213693951)))) (sRet (eOwn (aCons (eVar 3) (aCons (eOp aMod (eB (b1 gInt) (aCons (eOp aAdd (eOp aAdd (eOp aMul (eVar 4) (eC (.int 80051))) (eOp aMul (eOp aMul (eC (.int 9859)) (eVar 1)) (eVar 1))) (eC (.int 2341))) aNil)) (eC (.int 2305843009213693921))) (aCons (eC (.int 0)) aNil))))))))
def f__law_pot : List AD → Store → R AD := fnF 5 b__law_pot
theorem fn__law_pot (B : Bu P wd K mg base) {f : Addr} {fd : FuncData} (F : FunD K "_law_pot" "_law_pot" (defArgs s__law_pot) (defBody s__law_pot) (defScope s__law_pot) [] [] f fd) : FnG P wd K mg base (L2.CX P wd) 1 f fd (["script", "place"] : List Str) (spF (wo P wd K) f__law_pot 2) :=
  fn_scD F sc__law_pot rfl rfl fun cdv A outer s H E hr =>
    (rss_cons (rs_set (i := 2) sc__law_pot.nd (r_if (rt_cmp o_lt s_lt (rv 1) (r_callB call_len s_len rfl B.n_len rfl (ra_cons (rv 0) ra_nil))) (r_ix (x_ixD hr.u16) s_ixD (rv 0) (rv 1)) (r_op o_add s_add (r_op o_add s_add (r_op o_mod s_mod (r_callT call_int1 s_int rfl B.n_int rfl (ra_cons (r_callB (cr_sum rfl) s_sum rfl B.n_sum rfl (ra_cons (r_sl (rv 0) ro_no (ro_so r_int)) ra_nil)) ra_nil)) r_int) (r_op o_mul s_mul r_int (rv 1))) r_int)))
    (rss_cons (rs_set (i := 3) sc__law_pot.nd (r_op o_mul s_mul (r_op o_mod s_mod (r_callT call_int1 s_int rfl B.n_int rfl (ra_cons (r_callB call_abs s_abs rfl B.n_abs rfl (ra_cons (rv 2) ra_nil)) ra_nil)) (r_op o_pow s_pow (r_op o_pow s_pow r_int r_int) r_int)) (r_callT call_int1 s_int rfl B.n_int rfl (ra_cons (r_cmp o_ge s_ge (r_callB call_abs s_abs rfl B.n_abs rfl (ra_cons (rv 2) ra_nil)) (r_op o_pow s_pow r_int r_int)) ra_nil))))
    (rss_cons (rs_set (i := 4) sc__law_pot.nd (r_op o_mod s_mod (r_callT call_int1 s_int rfl B.n_int rfl (ra_cons (rv 2) ra_nil)) r_int))
    (rss_one (rs_ret (r_own (ra_cons (rv 3) (ra_cons (r_op o_mod s_mod (r_callT call_int1 s_int rfl B.n_int rfl (ra_cons (r_op o_add s_add (r_op o_add s_add (r_op o_mul s_mul (rv 4) r_int) (r_op o_mul s_mul (r_op o_mul s_mul r_int (rv 1)) (rv 1))) r_int) ra_nil)) r_int) (ra_cons r_int ra_nil)))))))))
theorem ok__law_pot (B : Bu P wd K mg base) : DefOk P wd K mg base (wo P wd K) 1 "_law_pot" 2 f__law_pot :=
  dok_F B.f__law_pot B.g__law_pot (fun _ _ _ _ _ _ us hl => match us, hl with | [_, _], _ => rfl) fun fd F => fn__law_pot B F
theorem sc__law_take : FnScope (["pot", "upto", "digit", "prime", "blend"] : List Str) (["pot", "upto"] : List Str) (defScope s__law_take) := ⟨rfl, rfl, rfl, by decide +kernel, rfl, by decide +kernel, by decide +kernel⟩
def b__law_take_0 : SS := (sIf (tV (eOp aGt (eOp aIxD (eVar 0) (eC (.int 0))) (eC (.int 0)))) (sSeq (sSet 2 (eOp aMod (eB (b1 gInt) (aCons (eOp aIxD (eVar 0) (eC (.int 0))) aNil)) (eVar 1))) (sSeq (sAsg (gSetD (eVar 0) (eC (.int 0))) (eOp aFdv (eOp aIxD (eVar 0) (eC (.int 0))) (eVar 1))) (sRet (eVar 2)))) sPass)
def b__law_take_1 : SS := (sAsg (gSetD (eVar 0) (eC (.int 2))) (eOp aAdd (eOp aIxD (eVar 0) (eC (.int 2))) (eC (.int 1))))
def b__law_take_2 : SS := (sSet 3 (eOp aIxD (eLst (aCons (eC (.int 2147483647)) (aCons (eC (.int 2147483629)) (aCons (eC (.int 2147483587)) (aCons (eC (.int 2147483579)) (aCons (eC (.int 2147483563)) aNil)))))) (eOp aMod (eB (b1 gInt) (aCons (eOp aIxD (eVar 0) (eC (.int 2))) aNil)) (eC (.int 5)))))
def b__law_take_3 : SS := (sSet 4 (eOp aMod (eB (b1 gInt) (aCons (eOp aPow (eB (b1 gInt) (aCons (eOp aAdd (eOp aAdd (eOp aIxD (eVar 0) (eC (.int 1))) (eOp aMul (eOp aMul (eC (.int 93497)) (eOp aIxD (eVar 0) (eC (.int 2)))) (eOp aIxD (eVar 0) (eC (.int 2))))) (eC (.int 3119))) aNil)) (eC (.int 3))) aNil)) (eVar 3)))
def b__law_take_4 : SS := (sSet 4 (eOp aMod (eB (b1 gInt) (aCons (eOp aMul (eVar 4) (eOp aAdd (eOp aMod (eB (b1 gInt) (aCons (eVar 4) aNil)) (eC (.int 12409))) (eOp aMul (eC (.int 311)) (eOp aIxD (eVar 0) (eC (.int 2)))))) aNil)) (eC (.int 2305843009213693907))))
def b__law_take_5 : SS := (sRet (eOp aMod (eB (b1 gInt) (aCons (eOp aFdv (eVar 4) (eC (.int 197))) aNil)) (eVar 1)))
def b__law_take_r4 : SS := sSeq b__law_take_4 b__law_take_5
def b__law_take_r3 : SS := sSeq b__law_take_3 b__law_take_r4
def b__law_take_r2 : SS := sSeq b__law_take_2 b__law_take_r3
def b__law_take_r1 : SS := sSeq b__law_take_1 b__law_take_r2
def b__law_take_r0 : SS := sSeq b__law_take_0 b__law_take_r1
def b__law_take : SS := b__law_take_r0
def f__law_take : List AD → Store → R AD := fnF 5 b__law_take
theorem fn__law_take (B : Bu P wd K mg base) {f : Addr} {fd : FuncData} (F : FunD K "_law_take" "_law_take" (defArgs s__law_take) (defBody s__law_take) (defScope s__law_take) [] [] f fd) : FnG P wd K mg base (L2.CX P wd) 1 f fd (["pot", "upto"] : List Str) (spF (wo P wd K) f__law_take 2) :=
  fn_scD F sc__law_take rfl rfl fun cdv A outer s H E hr =>
    (rss_cons (rs_if (rt_cmp o_gt s_gt (r_ix (x_ixD hr.u16) s_ixD (rv 0) r_int) r_int) (rss_cons (rs_set (i := 2) sc__law_take.nd (r_op o_mod s_mod (r_callT call_int1 s_int rfl B.n_int rfl (ra_cons (r_ix (x_ixD hr.u16) s_ixD (rv 0) r_int) ra_nil)) (rv 1)))
    (rss_cons (rs_asg (plain_SetD _ _) (r_op o_fdv s_fdv (r_ix (x_ixD hr.u16) s_ixD (rv 0) r_int) (rv 1)) (rg_setD hr.u16 (rv 0) r_int))
    (rss_one (rs_ret (rv 2))))) rss_nil)
    (rss_cons (rs_asg (plain_SetD _ _) (r_op o_add s_add (r_ix (x_ixD hr.u16) s_ixD (rv 0) r_int) r_int) (rg_setD hr.u16 (rv 0) r_int))
    (rss_cons (rs_set (i := 3) sc__law_take.nd (r_ix (x_ixD hr.u16) s_ixD (r_lst (ra_cons r_int (ra_cons r_int (ra_cons r_int (ra_cons r_int (ra_cons r_int ra_nil)))))) (r_op o_mod s_mod (r_callT call_int1 s_int rfl B.n_int rfl (ra_cons (r_ix (x_ixD hr.u16) s_ixD (rv 0) r_int) ra_nil)) r_int)))
    (rss_cons (rs_set (i := 4) sc__law_take.nd (r_op o_mod s_mod (r_callT call_int1 s_int rfl B.n_int rfl (ra_cons (r_op o_pow s_pow (r_callT call_int1 s_int rfl B.n_int rfl (ra_cons (r_op o_add s_add (r_op o_add s_add (r_ix (x_ixD hr.u16) s_ixD (rv 0) r_int) (r_op o_mul s_mul (r_op o_mul s_mul r_int (r_ix (x_ixD hr.u16) s_ixD (rv 0) r_int)) (r_ix (x_ixD hr.u16) s_ixD (rv 0) r_int))) r_int) ra_nil)) r_int) ra_nil)) (rv 3)))
    (rss_cons (rs_set (i := 4) sc__law_take.nd (r_op o_mod s_mod (r_callT call_int1 s_int rfl B.n_int rfl (ra_cons (r_op o_mul s_mul (rv 4) (r_op o_add s_add (r_op o_mod s_mod (r_callT call_int1 s_int rfl B.n_int rfl (ra_cons (rv 4) ra_nil)) r_int) (r_op o_mul s_mul r_int (r_ix (x_ixD hr.u16) s_ixD (rv 0) r_int)))) ra_nil)) r_int))
    (rss_one (rs_ret (r_op o_mod s_mod (r_callT call_int1 s_int rfl B.n_int rfl (ra_cons (r_op o_fdv s_fdv (rv 4) r_int) ra_nil)) (rv 1)))))))))
theorem ok__law_take (B : Bu P wd K mg base) : DefOk P wd K mg base (wo P wd K) 1 "_law_take" 2 f__law_take :=
  dok_F B.f__law_take B.g__law_take (fun _ _ _ _ _ _ us hl => match us, hl with | [_, _], _ => rfl) fun fd F => fn__law_take B F
theorem sc__law_drawn : FnScope (["pot", "letters", "most", "many", "states", "state", "gone", "sign"] : List Str) (["pot", "letters", "most"] : List Str) (defScope s__law_drawn) := ⟨rfl, rfl, rfl, by decide +kernel, rfl, by decide +kernel, by decide +kernel⟩
def b__law_drawn : SS := (sSeq (sSet 3 (eOp aAdd (eC (.int 1)) (eCallR 2 f__law_take (aCons (eVar 0) (aCons (eVar 2) aNil))))) (sSeq (sSet 4 (eOwn aNil)) (sSeq (sFor (iRng1F (eVar 3)) (gN 5) (sSeq (sSet 6 (eB (b1 gTuple) (aCons (eLc (iSeq (eVar 1)) [7] (tgN 7) tYesF (eB (b1 gInt) (aCons (eCallR 2 f__law_take (aCons (eVar 0) (aCons (eVar 3) aNil))) aNil))) aNil))) (sDrop (eBm (fun d μ => isLst μ d) mApp (eVar 4) (aCons (eTup (aCons (eOp aEq (eCallR 2 f__law_take (aCons (eVar 0) (aCons (eC (.int 2)) aNil))) (eC (.int 0))) (aCons (eVar 6) aNil))) aNil))))) (sRet (eTup (aCons (eVar 1) (aCons (eB (b1 gTuple) (aCons (eVar 4) aNil)) aNil)))))))
def f__law_drawn : List AD → Store → R AD := fnF 8 b__law_drawn
theorem fn__law_drawn (B : Bu P wd K mg base) {f : Addr} {fd : FuncData} (F : FunD K "_law_drawn" "_law_drawn" (defArgs s__law_drawn) (defBody s__law_drawn) (defScope s__law_drawn) [] [] f fd) : FnG P wd K mg base (L2.CX P wd) 2 f fd (["pot", "letters", "most"] : List Str) (spF (wo P wd K) f__law_drawn 3) :=
  fn_scD F sc__law_drawn rfl rfl fun cdv A outer s H E hr =>
    (rss_cons (rs_set (i := 3) sc__law_drawn.nd (r_op o_add s_add r_int (d_R (w := wo P wd K) (c := none) (ok__law_take B) hr (by decide) tkS rfl (ra_cons (rv 0) (ra_cons (rv 2) ra_nil)))))
    (rss_cons (rs_set (i := 4) sc__law_drawn.nd (r_own ra_nil))
    (rss_cons (rs_for (plain_N 5) poS rfl (ri_rng1 rfl B.n_range (rv 3)) (rg_name (i := 5) sc__law_drawn.nd) (rss_cons (rs_set (i := 6) sc__law_drawn.nd (r_callT call_tuple_of s_tuple rfl B.n_tuple rfl (ra_cons (r_lc (own := [("sign", 7)]) rfl sc__law_drawn.nd (ri_any (rv 1)) (blkOk_by (by kernel_rfl)) tg_name (fun s H C cl fp => pg_name (i := 7) sc__law_drawn.nd rfl (by first | exact Or.inl rfl | exact Or.inr rfl)) (fun s H C cl fp => rts_nil) (fun s H C cl fp => (r_callT call_int1 s_int rfl B.n_int rfl (ra_cons (d_R (w := wo P wd K) (c := none) (ok__law_take B) hr (by decide) tkN rfl (ra_cons (rv 0) (ra_cons (rv 3) ra_nil))) ra_nil)))) ra_nil)))
    (rss_one (rs_expr (r_bm s_app PySem.F.plainAttrs_list PySem.F.slot_list_append PySem.F.type_list_append mt_append (rv 4) (ra_cons (r_tup (ra_cons (r_cmp (o_eq hr.u64) s_eq (d_R (w := wo P wd K) (c := none) (ok__law_take B) hr (by decide) tkS rfl (ra_cons (rv 0) (ra_cons r_int ra_nil))) r_int) (ra_cons (rv 6) ra_nil))) ra_nil))))))
    (rss_one (rs_ret (r_tup (ra_cons (rv 1) (ra_cons (r_callT call_tuple_of s_tuple rfl B.n_tuple rfl (ra_cons (rv 4) ra_nil)) ra_nil))))))))
theorem ok__law_drawn (B : Bu P wd K mg base) : DefOk P wd K mg base (wo P wd K) 2 "_law_drawn" 3 f__law_drawn :=
  dok_F B.f__law_drawn B.g__law_drawn (fun _ _ _ _ _ _ us hl => match us, hl with | [_, _, _], _ => rfl) fun fd F => fn__law_drawn B F
theorem sc_is_rising : FnScope (["some", "one", "other"] : List Str) (["some"] : List Str) (defScope s_is_rising) := ⟨rfl, rfl, rfl, by decide +kernel, rfl, by decide +kernel, by decide +kernel⟩
def b_is_rising : SS := (sRet (eB (b1 (gBls allB)) (aCons (eLc (iZipF (eVar 0) (eSl (eVar 0) (oSo (eC (.int 1))) oNo)) [1, 2] (tgT [1, 2]) tYesF (eOp aLt (eVar 1) (eVar 2))) aNil)))
def f_is_rising : List AD → Store → R AD := fnF 3 b_is_rising
theorem fn_is_rising (B : Bu P wd K mg base) {f : Addr} {fd : FuncData} (F : FunD K "is_rising" "is_rising" (defArgs s_is_rising) (defBody s_is_rising) (defScope s_is_rising) [] [] f fd) : FnG P wd K mg base (L2.CX P wd) 1 f fd (["some"] : List Str) (spF (wo P wd K) f_is_rising 1) :=
  fn_scD F sc_is_rising rfl rfl fun cdv A outer s H E hr =>
    (rss_one (rs_ret (r_callB (cr_all rfl) s_all rfl B.n_all rfl (ra_cons (r_lc (own := [("one", 1), ("other", 2)]) rfl sc_is_rising.nd (ri_zip rfl B.n_zip (rv 0) (r_sl (rv 0) (ro_so r_int) ro_no)) (blkOk_by (by kernel_rfl)) (tg_tup (is := [1, 2]) (n := 2) rfl rfl) (fun s H C cl fp => pg_tup rfl (pgs_cons (pg_name (i := 1) sc_is_rising.nd rfl (by first | exact Or.inl rfl | exact Or.inr rfl)) (pgs_cons (pg_name (i := 2) sc_is_rising.nd rfl (by first | exact Or.inl rfl | exact Or.inr rfl)) pgs_nil)) rfl rfl) (fun s H C cl fp => rts_nil) (fun s H C cl fp => (r_cmp o_lt s_lt (rv 1) (rv 2)))) ra_nil))))
theorem ok_is_rising (B : Bu P wd K mg base) : DefOk P wd K mg base (wo P wd K) 1 "is_rising" 1 f_is_rising :=
  dok_F B.f_is_rising B.g_is_rising (fun _ _ _ _ _ _ us hl => match us, hl with | [_], _ => rfl) fun fd F => fn_is_rising B F
theorem sc_is_letters : FnScope (["value", "sign"] : List Str) (["value"] : List Str) (defScope s_is_letters) := ⟨rfl, rfl, rfl, by decide +kernel, rfl, by decide +kernel, by decide +kernel⟩
def b_is_letters : SS := (sSeq (sIf (tOrF (tNotF (tV (eUn (uIsi 3) (eVar 0)))) (tNotF (tV (eChain aLe aLe (eC (.int 1)) (eB (b1 gLen) (aCons (eVar 0) aNil)) (eC (.int 3)))))) (sRet (eC (.bl false))) sPass) (sRet (eAnd (eB (b1 (gBls allB)) (aCons (eLc (iSeq (eVar 0)) [1] (tgN 1) tYesF (eOp (aInGD false) (eVar 1) (eC (.str ("abcdefghijklmnopqrstuvwxyz" : Str))))) aNil)) (eCallP 1 f_is_rising (aCons (eVar 0) aNil)))))
def f_is_letters : List AD → Store → R AD := fnF 2 b_is_letters
theorem fn_is_letters (B : Bu P wd K mg base) {f : Addr} {fd : FuncData} (F : FunD K "is_letters" "is_letters" (defArgs s_is_letters) (defBody s_is_letters) (defScope s_is_letters) [] [] f fd) : FnG P wd K mg base (L2.CX P wd) 2 f fd (["value"] : List Str) (spF (wo P wd K) f_is_letters 1) :=
  fn_scD F sc_is_letters rfl rfl fun cdv A outer s H E hr =>
    (rss_cons (rs_if (rt_w (rw_or (rt_not (rt_v (r_isi (t := 3) ⟨by decide, by decide⟩ rfl B.n_isinstance rfl rfl B.n_str rfl (rv 0)))) (rw_or1 (rt_not (rt_chain o_le s_le o_le s_le r_int (r_callB call_len s_len rfl B.n_len rfl (ra_cons (rv 0) ra_nil)) (r_gint B.c_MOST_LETTERS)))))) (rss_one (rs_ret r_bl)) rss_nil)
    (rss_one (rs_ret (r_and (r_callB (cr_all rfl) s_all rfl B.n_all rfl (ra_cons (r_lc (own := [("sign", 1)]) rfl sc_is_letters.nd (ri_any (rv 0)) (blkOk_by (by kernel_rfl)) tg_name (fun s H C cl fp => pg_name (i := 1) sc_is_letters.nd rfl (by first | exact Or.inl rfl | exact Or.inr rfl)) (fun s H C cl fp => rts_nil) (fun s H C cl fp => (r_cmp (o_inD hr.u16) s_inGD (rv 1) (r_gstr B.c_SIGNS)))) ra_nil)) (r_one (d_P (w := wo P wd K) (c := none) (ok_is_rising B) hr (by decide) tkS rfl (ra_cons (rv 0) ra_nil)))))))
theorem ok_is_letters (B : Bu P wd K mg base) : DefOk P wd K mg base (wo P wd K) 2 "is_letters" 1 f_is_letters :=
  dok_F B.f_is_letters B.g_is_letters (fun _ _ _ _ _ _ us hl => match us, hl with | [_], _ => rfl) fun fd F => fn_is_letters B F
theorem sc_look_at_letters : FnScope (["letters"] : List Str) (["letters"] : List Str) (defScope s_look_at_letters) := ⟨rfl, rfl, rfl, by decide +kernel, rfl, by decide +kernel, by decide +kernel⟩
def b_look_at_letters : SS := (sIf (tNotF (tV (eCallP 1 f_is_letters (aCons (eVar 0) aNil)))) (sRaise "BadLetters" (eVar 0)) sPass)
def f_look_at_letters : List AD → Store → R AD := fnF 1 b_look_at_letters
theorem fn_look_at_letters (B : Bu P wd K mg base) {f : Addr} {fd : FuncData} (F : FunD K "look_at_letters" "look_at_letters" (defArgs s_look_at_letters) (defBody s_look_at_letters) (defScope s_look_at_letters) [] [] f fd) : FnG P wd K mg base (L2.CX P wd) 3 f fd (["letters"] : List Str) (spF (wo P wd K) f_look_at_letters 1) :=
  fn_scD F sc_look_at_letters rfl rfl fun cdv A outer s H E hr =>
    (rss_one (rs_if (rt_not (rt_v (d_P (w := wo P wd K) (c := none) (ok_is_letters B) hr (by decide) tkS rfl (ra_cons (rv 0) ra_nil)))) (rss_one (x_raise (cn := "BadLetters") B.x B.bt rfl (by decide +kernel) rfl B.g_BadLetters hr tkS (rv 0))) rss_nil))
theorem ok_look_at_letters (B : Bu P wd K mg base) : DefOk P wd K mg base (wo P wd K) 3 "look_at_letters" 1 f_look_at_letters :=
  dok_F B.f_look_at_letters B.g_look_at_letters (fun _ _ _ _ _ _ us hl => match us, hl with | [_], _ => rfl) fun fd F => fn_look_at_letters B F
theorem sc_is_int : FnScope (["value", "low", "high"] : List Str) (["value", "low", "high"] : List Str) (defScope s_is_int) := ⟨rfl, rfl, rfl, by decide +kernel, rfl, by decide +kernel, by decide +kernel⟩
def b_is_int : SS := (sRet (eAnd (eUn (uIsi 2) (eVar 0)) (eAnd (eNot (eUn (uIsi 1) (eVar 0))) (eChain aLe aLe (eVar 1) (eVar 0) (eVar 2)))))
def f_is_int : List AD → Store → R AD := fnF 3 b_is_int
theorem fn_is_int (B : Bu P wd K mg base) {f : Addr} {fd : FuncData} (F : FunD K "is_int" "is_int" (defArgs s_is_int) (defBody s_is_int) (defScope s_is_int) [] [] f fd) : FnG P wd K mg base (L2.CX P wd) 1 f fd (["value", "low", "high"] : List Str) (spF (wo P wd K) f_is_int 3) :=
  fn_scD F sc_is_int rfl rfl fun cdv A outer s H E hr =>
    (rss_one (rs_ret (r_and (r_isi (t := 2) ⟨by decide, by decide⟩ rfl B.n_isinstance rfl rfl B.n_int rfl (rv 0)) (r_and (r_not (r_isi (t := 1) ⟨by decide, by decide⟩ rfl B.n_isinstance rfl rfl B.n_bool rfl (rv 0))) (r_one (r_chain o_le s_le o_le s_le (rv 1) (rv 0) (rv 2)))))))
theorem ok_is_int (B : Bu P wd K mg base) : DefOk P wd K mg base (wo P wd K) 1 "is_int" 3 f_is_int :=
  dok_F B.f_is_int B.g_is_int (fun _ _ _ _ _ _ us hl => match us, hl with | [_, _, _], _ => rfl) fun fd F => fn_is_int B F
theorem sc_look_at_number : FnScope (["value", "low", "high"] : List Str) (["value", "low", "high"] : List Str) (defScope s_look_at_number) := ⟨rfl, rfl, rfl, by decide +kernel, rfl, by decide +kernel, by decide +kernel⟩
def b_look_at_number : SS := (sIf (tNotF (tV (eCallP 3 f_is_int (aCons (eVar 0) (aCons (eVar 1) (aCons (eVar 2) aNil)))))) (sRaise "BadNumber" (eVar 0)) sPass)
def f_look_at_number : List AD → Store → R AD := fnF 3 b_look_at_number
theorem fn_look_at_number (B : Bu P wd K mg base) {f : Addr} {fd : FuncData} (F : FunD K "look_at_number" "look_at_number" (defArgs s_look_at_number) (defBody s_look_at_number) (defScope s_look_at_number) [] [] f fd) : FnG P wd K mg base (L2.CX P wd) 2 f fd (["value", "low", "high"] : List Str) (spF (wo P wd K) f_look_at_number 3) :=
  fn_scD F sc_look_at_number rfl rfl fun cdv A outer s H E hr =>
    (rss_one (rs_if (rt_not (rt_v (d_P (w := wo P wd K) (c := none) (ok_is_int B) hr (by decide) tkS rfl (ra_cons (rv 0) (ra_cons (rv 1) (ra_cons (rv 2) ra_nil)))))) (rss_one (x_raise (cn := "BadNumber") B.x B.bt rfl (by decide +kernel) rfl B.g_BadNumber hr tkS (rv 0))) rss_nil))
theorem ok_look_at_number (B : Bu P wd K mg base) : DefOk P wd K mg base (wo P wd K) 2 "look_at_number" 3 f_look_at_number :=
  dok_F B.f_look_at_number B.g_look_at_number (fun _ _ _ _ _ _ us hl => match us, hl with | [_, _, _], _ => rfl) fun fd F => fn_look_at_number B F
theorem sc_is_word : FnScope (["letters", "value", "sign"] : List Str) (["letters", "value"] : List Str) (defScope s_is_word) := ⟨rfl, rfl, rfl, by decide +kernel, rfl, by decide +kernel, by decide +kernel⟩
def b_is_word : SS := (sRet (eAnd (eUn (uIsi 3) (eVar 1)) (eAnd (eOp aLe (eB (b1 gLen) (aCons (eVar 1) aNil)) (eC (.int 5000))) (eB (b1 (gBls allB)) (aCons (eLc (iSeq (eVar 1)) [2] (tgN 2) tYesF (eOp (aInGD false) (eVar 2) (eVar 0))) aNil)))))
def f_is_word : List AD → Store → R AD := fnF 3 b_is_word
theorem fn_is_word (B : Bu P wd K mg base) {f : Addr} {fd : FuncData} (F : FunD K "is_word" "is_word" (defArgs s_is_word) (defBody s_is_word) (defScope s_is_word) [] [] f fd) : FnG P wd K mg base (L2.CX P wd) 1 f fd (["letters", "value"] : List Str) (spF (wo P wd K) f_is_word 2) :=
  fn_scD F sc_is_word rfl rfl fun cdv A outer s H E hr =>
    (rss_one (rs_ret (r_and (r_isi (t := 3) ⟨by decide, by decide⟩ rfl B.n_isinstance rfl rfl B.n_str rfl (rv 1)) (r_and (r_cmp o_le s_le (r_callB call_len s_len rfl B.n_len rfl (ra_cons (rv 1) ra_nil)) (r_gint B.c_MOST_WORD)) (r_one (r_callB (cr_all rfl) s_all rfl B.n_all rfl (ra_cons (r_lc (own := [("sign", 2)]) rfl sc_is_word.nd (ri_any (rv 1)) (blkOk_by (by kernel_rfl)) tg_name (fun s H C cl fp => pg_name (i := 2) sc_is_word.nd rfl (by first | exact Or.inl rfl | exact Or.inr rfl)) (fun s H C cl fp => rts_nil) (fun s H C cl fp => (r_cmp (o_inD hr.u16) s_inGD (rv 2) (rv 0)))) ra_nil)))))))
theorem ok_is_word (B : Bu P wd K mg base) : DefOk P wd K mg base (wo P wd K) 1 "is_word" 2 f_is_word :=
  dok_F B.f_is_word B.g_is_word (fun _ _ _ _ _ _ us hl => match us, hl with | [_, _], _ => rfl) fun fd F => fn_is_word B F
theorem sc_look_at_word : FnScope (["letters", "word"] : List Str) (["letters", "word"] : List Str) (defScope s_look_at_word) := ⟨rfl, rfl, rfl, by decide +kernel, rfl, by decide +kernel, by decide +kernel⟩
def b_look_at_word : SS := (sIf (tNotF (tV (eCallP 2 f_is_word (aCons (eVar 0) (aCons (eVar 1) aNil))))) (sRaise "BadWord" (eVar 1)) sPass)
def f_look_at_word : List AD → Store → R AD := fnF 2 b_look_at_word
theorem fn_look_at_word (B : Bu P wd K mg base) {f : Addr} {fd : FuncData} (F : FunD K "look_at_word" "look_at_word" (defArgs s_look_at_word) (defBody s_look_at_word) (defScope s_look_at_word) [] [] f fd) : FnG P wd K mg base (L2.CX P wd) 2 f fd (["letters", "word"] : List Str) (spF (wo P wd K) f_look_at_word 2) :=
  fn_scD F sc_look_at_word rfl rfl fun cdv A outer s H E hr =>
    (rss_one (rs_if (rt_not (rt_v (d_P (w := wo P wd K) (c := none) (ok_is_word B) hr (by decide) tkS rfl (ra_cons (rv 0) (ra_cons (rv 1) ra_nil))))) (rss_one (x_raise (cn := "BadWord") B.x B.bt rfl (by decide +kernel) rfl B.g_BadWord hr tkS (rv 1))) rss_nil))
theorem ok_look_at_word (B : Bu P wd K mg base) : DefOk P wd K mg base (wo P wd K) 2 "look_at_word" 2 f_look_at_word :=
  dok_F B.f_look_at_word B.g_look_at_word (fun _ _ _ _ _ _ us hl => match us, hl with | [_, _], _ => rfl) fun fd F => fn_look_at_word B F
theorem sc_look_of : FnScope (["word", "k", "t", "pieces", "at", "piece"] : List Str) (["word", "k", "t"] : List Str) (defScope s_look_of) := ⟨rfl, rfl, rfl, by decide +kernel, rfl, by decide +kernel, by decide +kernel⟩
def b_look_of : SS := (sSeq (sIf (tV (eOp aLt (eB (b1 gLen) (aCons (eVar 0) aNil)) (eVar 1))) (sRet (eTup (aCons (eVar 0) aNil))) sPass) (sSeq (sSet 3 eDnew) (sSeq (sFor (iRng1F (eOp aAdd (eOp aSub (eB (b1 gLen) (aCons (eVar 0) aNil)) (eVar 1)) (eC (.int 1)))) (gN 4) (sSeq (sSet 5 (eSl (eVar 0) (oSo (eVar 4)) (oSo (eOp aAdd (eVar 4) (eVar 1))))) (sAsg (gSetD (eVar 3) (eVar 5)) (eB (bb gMin) (aCons (eVar 2) (aCons (eOp aAdd (eBm (fun d μ => isDct μ d) mGet (eVar 3) (aCons (eVar 5) (aCons (eC (.int 0)) aNil))) (eC (.int 1))) aNil)))))) (sRet (eTup (aCons (eSl (eVar 0) oNo (oSo (eOp aSub (eVar 1) (eC (.int 1))))) (aCons (eSl (eVar 0) (oSo (eOp aAdd (eOp aSub (eB (b1 gLen) (aCons (eVar 0) aNil)) (eVar 1)) (eC (.int 1)))) oNo) (aCons (eB (b1 gTuple) (aCons (eSortIt (eVar 3)) aNil)) aNil))))))))
def f_look_of : List AD → Store → R AD := fnF 6 b_look_of
theorem fn_look_of (B : Bu P wd K mg base) {f : Addr} {fd : FuncData} (F : FunD K "look_of" "look_of" (defArgs s_look_of) (defBody s_look_of) (defScope s_look_of) [] [] f fd) : FnG P wd K mg base (L2.CX P wd) 1 f fd (["word", "k", "t"] : List Str) (spF (wo P wd K) f_look_of 3) :=
  fn_scD F sc_look_of rfl rfl fun cdv A outer s H E hr =>
    (rss_cons (rs_if (rt_cmp o_lt s_lt (r_callB call_len s_len rfl B.n_len rfl (ra_cons (rv 0) ra_nil)) (rv 1)) (rss_one (rs_ret (r_tup (ra_cons (rv 0) ra_nil)))) rss_nil)
    (rss_cons (rs_set (i := 3) sc_look_of.nd r_dnew)
    (rss_cons (rs_for (plain_N 4) poS rfl (ri_rng1 rfl B.n_range (r_op o_add s_add (r_op o_sub s_sub (r_callB call_len s_len rfl B.n_len rfl (ra_cons (rv 0) ra_nil)) (rv 1)) r_int)) (rg_name (i := 4) sc_look_of.nd) (rss_cons (rs_set (i := 5) sc_look_of.nd (r_sl (rv 0) (ro_so (rv 4)) (ro_so (r_op o_add s_add (rv 4) (rv 1)))))
    (rss_one (rs_asg (plain_SetD _ _) (r_callB (call_min2 rfl) s_min rfl B.n_min rfl (ra_cons (rv 2) (ra_cons (r_op o_add s_add (r_dget2 hr.u16 (rv 3) (ra_cons (rv 5) (ra_cons r_int ra_nil))) r_int) ra_nil))) (rg_setD hr.u16 (rv 3) (rv 5))))))
    (rss_one (rs_ret (r_tup (ra_cons (r_sl (rv 0) ro_no (ro_so (r_op o_sub s_sub (rv 1) r_int))) (ra_cons (r_sl (rv 0) (ro_so (r_op o_add s_add (r_op o_sub s_sub (r_callB call_len s_len rfl B.n_len rfl (ra_cons (rv 0) ra_nil)) (rv 1)) r_int)) ro_no) (ra_cons (r_callT call_tuple_of s_tuple rfl B.n_tuple rfl (ra_cons (r_sortIt rfl rfl B.n_sorted (rv 3)) ra_nil)) ra_nil)))))))))
theorem ok_look_of (B : Bu P wd K mg base) : DefOk P wd K mg base (wo P wd K) 1 "look_of" 3 f_look_of :=
  dok_F B.f_look_of B.g_look_of (fun _ _ _ _ _ _ us hl => match us, hl with | [_, _, _], _ => rfl) fun fd F => fn_look_of B F
theorem sc_told_look : FnScope (["letters", "word", "k", "t"] : List Str) (["letters", "word", "k", "t"] : List Str) (defScope s_told_look) := ⟨rfl, rfl, rfl, by decide +kernel, rfl, by decide +kernel, by decide +kernel⟩
def b_told_look : SS := (sSeq (sDrop (eCallP 1 f_look_at_letters (aCons (eVar 0) aNil))) (sSeq (sDrop (eCallP 2 f_look_at_word (aCons (eVar 0) (aCons (eVar 1) aNil)))) (sSeq (sDrop (eCallP 3 f_look_at_number (aCons (eVar 2) (aCons (eC (.int 1)) (aCons (eC (.int 6)) aNil))))) (sSeq (sDrop (eCallP 3 f_look_at_number (aCons (eVar 3) (aCons (eC (.int 1)) (aCons (eC (.int 6)) aNil))))) (sRet (eCallP 3 f_look_of (aCons (eVar 1) (aCons (eVar 2) (aCons (eVar 3) aNil)))))))))
def f_told_look : List AD → Store → R AD := fnF 4 b_told_look
theorem fn_told_look (B : Bu P wd K mg base) {f : Addr} {fd : FuncData} (F : FunD K "told_look" "told_look" (defArgs s_told_look) (defBody s_told_look) (defScope s_told_look) [] [] f fd) : FnG P wd K mg base (L2.CX P wd) 4 f fd (["letters", "word", "k", "t"] : List Str) (spF (wo P wd K) f_told_look 4) :=
  fn_scD F sc_told_look rfl rfl fun cdv A outer s H E hr =>
    (rss_cons (rs_expr (d_P (w := wo P wd K) (c := none) (ok_look_at_letters B) hr (by decide) tkS rfl (ra_cons (rv 0) ra_nil)))
    (rss_cons (rs_expr (d_P (w := wo P wd K) (c := none) (ok_look_at_word B) hr (by decide) tkS rfl (ra_cons (rv 0) (ra_cons (rv 1) ra_nil))))
    (rss_cons (rs_expr (d_P (w := wo P wd K) (c := none) (ok_look_at_number B) hr (by decide) tkS rfl (ra_cons (rv 2) (ra_cons r_int (ra_cons (r_gint B.c_MOST_K) ra_nil)))))
    (rss_cons (rs_expr (d_P (w := wo P wd K) (c := none) (ok_look_at_number B) hr (by decide) tkS rfl (ra_cons (rv 3) (ra_cons r_int (ra_cons (r_gint B.c_MOST_T) ra_nil)))))
    (rss_one (rs_ret (d_P (w := wo P wd K) (c := none) (ok_look_of B) hr (by decide) tkS rfl (ra_cons (rv 1) (ra_cons (rv 2) (ra_cons (rv 3) ra_nil))))))))))
theorem ok_told_look (B : Bu P wd K mg base) : DefOk P wd K mg base (wo P wd K) 4 "told_look" 4 f_told_look :=
  dok_F B.f_told_look B.g_told_look (fun _ _ _ _ _ _ us hl => match us, hl with | [_, _, _, _], _ => rfl) fun fd F => fn_told_look B F
theorem kw_told_look_2_t_k (B : Bu P wd K mg base) : KwOk P wd K mg base (wo P wd K) 4 "told_look" 4 2 (["t", "k"] : List Str) [1, 0] f_told_look :=
  kw_F B.f_told_look B.g_told_look (fun _ _ _ _ _ _ us ws h1 h2 => match us, ws, h1, h2 with | [_, _], [_, _], _, _ => rfl) fun fd F => fn_told_look B F
theorem sc_same_look : FnScope (["letters", "one", "two", "k", "t"] : List Str) (["letters", "one", "two", "k", "t"] : List Str) (defScope s_same_look) := ⟨rfl, rfl, rfl, by decide +kernel, rfl, by decide +kernel, by decide +kernel⟩
def b_same_look_0 : SS := (sDrop (eCallP 1 f_look_at_letters (aCons (eVar 0) aNil)))
def b_same_look_1 : SS := (sDrop (eCallP 2 f_look_at_word (aCons (eVar 0) (aCons (eVar 1) aNil))))
def b_same_look_2 : SS := (sDrop (eCallP 2 f_look_at_word (aCons (eVar 0) (aCons (eVar 2) aNil))))
def b_same_look_3 : SS := (sDrop (eCallP 3 f_look_at_number (aCons (eVar 3) (aCons (eC (.int 1)) (aCons (eC (.int 6)) aNil)))))
def b_same_look_4 : SS := (sDrop (eCallP 3 f_look_at_number (aCons (eVar 4) (aCons (eC (.int 1)) (aCons (eC (.int 6)) aNil)))))
def b_same_look_5 : SS := (sRet (eOp aEq (eCallP 3 f_look_of (aCons (eVar 1) (aCons (eVar 3) (aCons (eVar 4) aNil)))) (eCallP 3 f_look_of (aCons (eVar 2) (aCons (eVar 3) (aCons (eVar 4) aNil))))))
def b_same_look_r4 : SS := sSeq b_same_look_4 b_same_look_5
def b_same_look_r3 : SS := sSeq b_same_look_3 b_same_look_r4
def b_same_look_r2 : SS := sSeq b_same_look_2 b_same_look_r3
def b_same_look_r1 : SS := sSeq b_same_look_1 b_same_look_r2
def b_same_look_r0 : SS := sSeq b_same_look_0 b_same_look_r1
def b_same_look : SS := b_same_look_r0
def f_same_look : List AD → Store → R AD := fnF 5 b_same_look
theorem fn_same_look (B : Bu P wd K mg base) {f : Addr} {fd : FuncData} (F : FunD K "same_look" "same_look" (defArgs s_same_look) (defBody s_same_look) (defScope s_same_look) [] [] f fd) : FnG P wd K mg base (L2.CX P wd) 4 f fd (["letters", "one", "two", "k", "t"] : List Str) (spF (wo P wd K) f_same_look 5) :=
  fn_scD F sc_same_look rfl rfl fun cdv A outer s H E hr =>
    (rss_cons (rs_expr (d_P (w := wo P wd K) (c := none) (ok_look_at_letters B) hr (by decide) tkS rfl (ra_cons (rv 0) ra_nil)))
    (rss_cons (rs_expr (d_P (w := wo P wd K) (c := none) (ok_look_at_word B) hr (by decide) tkS rfl (ra_cons (rv 0) (ra_cons (rv 1) ra_nil))))
    (rss_cons (rs_expr (d_P (w := wo P wd K) (c := none) (ok_look_at_word B) hr (by decide) tkS rfl (ra_cons (rv 0) (ra_cons (rv 2) ra_nil))))
    (rss_cons (rs_expr (d_P (w := wo P wd K) (c := none) (ok_look_at_number B) hr (by decide) tkS rfl (ra_cons (rv 3) (ra_cons r_int (ra_cons (r_gint B.c_MOST_K) ra_nil)))))
    (rss_cons (rs_expr (d_P (w := wo P wd K) (c := none) (ok_look_at_number B) hr (by decide) tkS rfl (ra_cons (rv 4) (ra_cons r_int (ra_cons (r_gint B.c_MOST_T) ra_nil)))))
    (rss_one (rs_ret (r_cmp (o_eq hr.u64) s_eq (d_P (w := wo P wd K) (c := none) (ok_look_of B) hr (by decide) tkS rfl (ra_cons (rv 1) (ra_cons (rv 3) (ra_cons (rv 4) ra_nil)))) (d_P (w := wo P wd K) (c := none) (ok_look_of B) hr (by decide) tkS rfl (ra_cons (rv 2) (ra_cons (rv 3) (ra_cons (rv 4) ra_nil))))))))))))
theorem ok_same_look (B : Bu P wd K mg base) : DefOk P wd K mg base (wo P wd K) 4 "same_look" 5 f_same_look :=
  dok_F B.f_same_look B.g_same_look (fun _ _ _ _ _ _ us hl => match us, hl with | [_, _, _, _, _], _ => rfl) fun fd F => fn_same_look B F
theorem kw_same_look_3_t_k (B : Bu P wd K mg base) : KwOk P wd K mg base (wo P wd K) 4 "same_look" 5 3 (["t", "k"] : List Str) [1, 0] f_same_look :=
  kw_F B.f_same_look B.g_same_look (fun _ _ _ _ _ _ us ws h1 h2 => match us, ws, h1, h2 with | [_, _, _], [_, _], _, _ => rfl) fun fd F => fn_same_look B F
theorem sc_is_state : FnScope (["letters", "many", "value", "gone", "state"] : List Str) (["letters", "many", "value"] : List Str) (defScope s_is_state) := ⟨rfl, rfl, rfl, by decide +kernel, rfl, by decide +kernel, by decide +kernel⟩
def b_is_state : SS := (sSeq (sIf (tOrF (tNotF (tV (eUn (uIsi 4) (eVar 2)))) (tOrF (tV (eOp aNe (eB (b1 gLen) (aCons (eVar 2) aNil)) (eC (.int 2)))) (tNotF (tV (eUn (uIsi 1) (eOp aIxD (eVar 2) (eC (.int 0)))))))) (sRet (eC (.bl false))) sPass) (sSeq (sSet 3 (eOp aIxD (eVar 2) (eC (.int 1)))) (sSeq (sIf (tOrF (tNotF (tV (eUn (uIsi 4) (eVar 3)))) (tV (eOp aNe (eB (b1 gLen) (aCons (eVar 3) aNil)) (eB (b1 gLen) (aCons (eVar 0) aNil))))) (sRet (eC (.bl false))) sPass) (sRet (eB (b1 (gBls allB)) (aCons (eLc (iSeq (eVar 3)) [4] (tgN 4) tYesF (eCallP 3 f_is_int (aCons (eVar 4) (aCons (eC (.int 0)) (aCons (eOp aSub (eVar 1) (eC (.int 1))) aNil))))) aNil))))))
def f_is_state : List AD → Store → R AD := fnF 5 b_is_state
theorem fn_is_state (B : Bu P wd K mg base) {f : Addr} {fd : FuncData} (F : FunD K "is_state" "is_state" (defArgs s_is_state) (defBody s_is_state) (defScope s_is_state) [] [] f fd) : FnG P wd K mg base (L2.CX P wd) 2 f fd (["letters", "many", "value"] : List Str) (spF (wo P wd K) f_is_state 3) :=
  fn_scD F sc_is_state rfl rfl fun cdv A outer s H E hr =>
    (rss_cons (rs_if (rt_w (rw_or (rt_not (rt_v (r_isi (t := 4) ⟨by decide, by decide⟩ rfl B.n_isinstance rfl rfl B.n_tuple rfl (rv 2)))) (rw_or (rt_cmp (o_ne hr.u64) s_ne (r_callB call_len s_len rfl B.n_len rfl (ra_cons (rv 2) ra_nil)) r_int) (rw_or1 (rt_not (rt_v (r_isi (t := 1) ⟨by decide, by decide⟩ rfl B.n_isinstance rfl rfl B.n_bool rfl (r_ix (x_ixD hr.u16) s_ixD (rv 2) r_int)))))))) (rss_one (rs_ret r_bl)) rss_nil)
    (rss_cons (rs_set (i := 3) sc_is_state.nd (r_ix (x_ixD hr.u16) s_ixD (rv 2) r_int))
    (rss_cons (rs_if (rt_w (rw_or (rt_not (rt_v (r_isi (t := 4) ⟨by decide, by decide⟩ rfl B.n_isinstance rfl rfl B.n_tuple rfl (rv 3)))) (rw_or1 (rt_cmp (o_ne hr.u64) s_ne (r_callB call_len s_len rfl B.n_len rfl (ra_cons (rv 3) ra_nil)) (r_callB call_len s_len rfl B.n_len rfl (ra_cons (rv 0) ra_nil)))))) (rss_one (rs_ret r_bl)) rss_nil)
    (rss_one (rs_ret (r_callB (cr_all rfl) s_all rfl B.n_all rfl (ra_cons (r_lc (own := [("state", 4)]) rfl sc_is_state.nd (ri_any (rv 3)) (blkOk_by (by kernel_rfl)) tg_name (fun s H C cl fp => pg_name (i := 4) sc_is_state.nd rfl (by first | exact Or.inl rfl | exact Or.inr rfl)) (fun s H C cl fp => rts_nil) (fun s H C cl fp => (d_P (w := wo P wd K) (c := none) (ok_is_int B) hr (by decide) tkN rfl (ra_cons (rv 4) (ra_cons r_int (ra_cons (r_op o_sub s_sub (rv 1) r_int) ra_nil)))))) ra_nil)))))))
theorem ok_is_state (B : Bu P wd K mg base) : DefOk P wd K mg base (wo P wd K) 2 "is_state" 3 f_is_state :=
  dok_F B.f_is_state B.g_is_state (fun _ _ _ _ _ _ us hl => match us, hl with | [_, _, _], _ => rfl) fun fd F => fn_is_state B F
theorem sc_is_machine : FnScope (["value", "letters", "states", "state"] : List Str) (["value"] : List Str) (defScope s_is_machine) := ⟨rfl, rfl, rfl, by decide +kernel, rfl, by decide +kernel, by decide +kernel⟩
def b_is_machine : SS := (sSeq (sIf (tOrF (tNotF (tV (eUn (uIsi 4) (eVar 0)))) (tOrF (tV (eOp aNe (eB (b1 gLen) (aCons (eVar 0) aNil)) (eC (.int 2)))) (tNotF (tV (eCallP 1 f_is_letters (aCons (eOp aIxD (eVar 0) (eC (.int 0))) aNil)))))) (sRet (eC (.bl false))) sPass) (sSeq (sAsg (gT [1, 2]) (eVar 0)) (sSeq (sIf (tOrF (tNotF (tV (eUn (uIsi 4) (eVar 2)))) (tNotF (tV (eChain aLe aLe (eC (.int 1)) (eB (b1 gLen) (aCons (eVar 2) aNil)) (eC (.int 200)))))) (sRet (eC (.bl false))) sPass) (sRet (eB (b1 (gBls allB)) (aCons (eLc (iSeq (eVar 2)) [3] (tgN 3) tYesF (eCallP 3 f_is_state (aCons (eVar 1) (aCons (eB (b1 gLen) (aCons (eVar 2) aNil)) (aCons (eVar 3) aNil))))) aNil))))))
def f_is_machine : List AD → Store → R AD := fnF 4 b_is_machine
theorem fn_is_machine (B : Bu P wd K mg base) {f : Addr} {fd : FuncData} (F : FunD K "is_machine" "is_machine" (defArgs s_is_machine) (defBody s_is_machine) (defScope s_is_machine) [] [] f fd) : FnG P wd K mg base (L2.CX P wd) 3 f fd (["value"] : List Str) (spF (wo P wd K) f_is_machine 1) :=
  fn_scD F sc_is_machine rfl rfl fun cdv A outer s H E hr =>
    (rss_cons (rs_if (rt_w (rw_or (rt_not (rt_v (r_isi (t := 4) ⟨by decide, by decide⟩ rfl B.n_isinstance rfl rfl B.n_tuple rfl (rv 0)))) (rw_or (rt_cmp (o_ne hr.u64) s_ne (r_callB call_len s_len rfl B.n_len rfl (ra_cons (rv 0) ra_nil)) r_int) (rw_or1 (rt_not (rt_v (d_P (w := wo P wd K) (c := none) (ok_is_letters B) hr (by decide) tkS rfl (ra_cons (r_ix (x_ixD hr.u16) s_ixD (rv 0) r_int) ra_nil)))))))) (rss_one (rs_ret r_bl)) rss_nil)
    (rss_cons (rs_asg (plain_T [1, 2]) (rv 0) (rg_tup rfl (pgs_cons (pg_name (i := 1) sc_is_machine.nd rfl (by first | exact Or.inl rfl | exact Or.inr rfl)) (pgs_cons (pg_name (i := 2) sc_is_machine.nd rfl (by first | exact Or.inl rfl | exact Or.inr rfl)) pgs_nil))))
    (rss_cons (rs_if (rt_w (rw_or (rt_not (rt_v (r_isi (t := 4) ⟨by decide, by decide⟩ rfl B.n_isinstance rfl rfl B.n_tuple rfl (rv 2)))) (rw_or1 (rt_not (rt_chain o_le s_le o_le s_le r_int (r_callB call_len s_len rfl B.n_len rfl (ra_cons (rv 2) ra_nil)) (r_gint B.c_MOST_STATES)))))) (rss_one (rs_ret r_bl)) rss_nil)
    (rss_one (rs_ret (r_callB (cr_all rfl) s_all rfl B.n_all rfl (ra_cons (r_lc (own := [("state", 3)]) rfl sc_is_machine.nd (ri_any (rv 2)) (blkOk_by (by kernel_rfl)) tg_name (fun s H C cl fp => pg_name (i := 3) sc_is_machine.nd rfl (by first | exact Or.inl rfl | exact Or.inr rfl)) (fun s H C cl fp => rts_nil) (fun s H C cl fp => (d_P (w := wo P wd K) (c := none) (ok_is_state B) hr (by decide) tkN rfl (ra_cons (rv 1) (ra_cons (r_callB call_len s_len rfl B.n_len rfl (ra_cons (rv 2) ra_nil)) (ra_cons (rv 3) ra_nil)))))) ra_nil)))))))
theorem ok_is_machine (B : Bu P wd K mg base) : DefOk P wd K mg base (wo P wd K) 3 "is_machine" 1 f_is_machine :=
  dok_F B.f_is_machine B.g_is_machine (fun _ _ _ _ _ _ us hl => match us, hl with | [_], _ => rfl) fun fd F => fn_is_machine B F
theorem sc_look_at_machine : FnScope (["machine"] : List Str) (["machine"] : List Str) (defScope s_look_at_machine) := ⟨rfl, rfl, rfl, by decide +kernel, rfl, by decide +kernel, by decide +kernel⟩
def b_look_at_machine : SS := (sIf (tNotF (tV (eCallP 1 f_is_machine (aCons (eVar 0) aNil)))) (sRaise "BadMachine" (eVar 0)) sPass)
def f_look_at_machine : List AD → Store → R AD := fnF 1 b_look_at_machine
theorem fn_look_at_machine (B : Bu P wd K mg base) {f : Addr} {fd : FuncData} (F : FunD K "look_at_machine" "look_at_machine" (defArgs s_look_at_machine) (defBody s_look_at_machine) (defScope s_look_at_machine) [] [] f fd) : FnG P wd K mg base (L2.CX P wd) 4 f fd (["machine"] : List Str) (spF (wo P wd K) f_look_at_machine 1) :=
  fn_scD F sc_look_at_machine rfl rfl fun cdv A outer s H E hr =>
    (rss_one (rs_if (rt_not (rt_v (d_P (w := wo P wd K) (c := none) (ok_is_machine B) hr (by decide) tkS rfl (ra_cons (rv 0) ra_nil)))) (rss_one (x_raise (cn := "BadMachine") B.x B.bt rfl (by decide +kernel) rfl B.g_BadMachine hr tkS (rv 0))) rss_nil))
theorem ok_look_at_machine (B : Bu P wd K mg base) : DefOk P wd K mg base (wo P wd K) 4 "look_at_machine" 1 f_look_at_machine :=
  dok_F B.f_look_at_machine B.g_look_at_machine (fun _ _ _ _ _ _ us hl => match us, hl with | [_], _ => rfl) fun fd F => fn_look_at_machine B F
theorem sc_look_at_both : FnScope (["machine", "k", "t"] : List Str) (["machine", "k", "t"] : List Str) (defScope s_look_at_both) := ⟨rfl, rfl, rfl, by decide +kernel, rfl, by decide +kernel, by decide +kernel⟩
def b_look_at_both : SS := (sSeq (sDrop (eCallP 1 f_look_at_machine (aCons (eVar 0) aNil))) (sSeq (sDrop (eCallP 3 f_look_at_number (aCons (eVar 1) (aCons (eC (.int 1)) (aCons (eC (.int 6)) aNil))))) (sDrop (eCallP 3 f_look_at_number (aCons (eVar 2) (aCons (eC (.int 1)) (aCons (eC (.int 6)) aNil)))))))
def f_look_at_both : List AD → Store → R AD := fnF 3 b_look_at_both
theorem fn_look_at_both (B : Bu P wd K mg base) {f : Addr} {fd : FuncData} (F : FunD K "look_at_both" "look_at_both" (defArgs s_look_at_both) (defBody s_look_at_both) (defScope s_look_at_both) [] [] f fd) : FnG P wd K mg base (L2.CX P wd) 5 f fd (["machine", "k", "t"] : List Str) (spF (wo P wd K) f_look_at_both 3) :=
  fn_scD F sc_look_at_both rfl rfl fun cdv A outer s H E hr =>
    (rss_cons (rs_expr (d_P (w := wo P wd K) (c := none) (ok_look_at_machine B) hr (by decide) tkS rfl (ra_cons (rv 0) ra_nil)))
    (rss_cons (rs_expr (d_P (w := wo P wd K) (c := none) (ok_look_at_number B) hr (by decide) tkS rfl (ra_cons (rv 1) (ra_cons r_int (ra_cons (r_gint B.c_MOST_K) ra_nil)))))
    (rss_one (rs_expr (d_P (w := wo P wd K) (c := none) (ok_look_at_number B) hr (by decide) tkS rfl (ra_cons (rv 2) (ra_cons r_int (ra_cons (r_gint B.c_MOST_T) ra_nil))))))))
theorem ok_look_at_both (B : Bu P wd K mg base) : DefOk P wd K mg base (wo P wd K) 5 "look_at_both" 3 f_look_at_both :=
  dok_F B.f_look_at_both B.g_look_at_both (fun _ _ _ _ _ _ us hl => match us, hl with | [_, _, _], _ => rfl) fun fd F => fn_look_at_both B F
theorem sc_by_looks : FnScope (["machine", "k", "t"] : List Str) (["machine", "k", "t"] : List Str) (defScope s_by_looks) := ⟨rfl, rfl, rfl, by decide +kernel, rfl, by decide +kernel, by decide +kernel⟩
def b_by_looks : SS := (sSeq (sDrop (eCallP 3 f_look_at_both (aCons (eVar 0) (aCons (eVar 1) (aCons (eVar 2) aNil))))) sBad)
def f_by_looks : List AD → Store → R AD := fnF 3 b_by_looks
theorem fn_by_looks (B : Bu P wd K mg base) {f : Addr} {fd : FuncData} (F : FunD K "by_looks" "by_looks" (defArgs s_by_looks) (defBody s_by_looks) (defScope s_by_looks) [] [] f fd) : FnG P wd K mg base (L2.CX P wd) 6 f fd (["machine", "k", "t"] : List Str) (spF (wo P wd K) f_by_looks 3) :=
  fn_scD F sc_by_looks rfl rfl fun cdv A outer s H E hr =>
    (rss_cons (rs_expr (d_P (w := wo P wd K) (c := none) (ok_look_at_both B) hr (by decide) tkS rfl (ra_cons (rv 0) (ra_cons (rv 1) (ra_cons (rv 2) ra_nil)))))
    (rss_one rs_bad))
theorem ok_by_looks (B : Bu P wd K mg base) : DefOk P wd K mg base (wo P wd K) 6 "by_looks" 3 f_by_looks :=
  dok_F B.f_by_looks B.g_by_looks (fun _ _ _ _ _ _ us hl => match us, hl with | [_, _, _], _ => rfl) fun fd F => fn_by_looks B F
theorem sc_shows_by_looks : FnScope (["machine", "k", "t", "value", "small"] : List Str) (["machine", "k", "t", "value"] : List Str) (defScope s_shows_by_looks) := ⟨rfl, rfl, rfl, by decide +kernel, rfl, by decide +kernel, by decide +kernel⟩
def b_shows_by_looks : SS := (sSeq (sDrop (eCallP 3 f_look_at_both (aCons (eVar 0) (aCons (eVar 1) (aCons (eVar 2) aNil))))) (sSeq (sIf (tOrF (tNotF (tV (eUn (uIsi 4) (eVar 3)))) (tOrF (tV (eOp (aInGD true) (eB (b1 gLen) (aCons (eVar 3) aNil)) (eTup (aCons (eC (.int 2)) (aCons (eC (.int 3)) aNil))))) (tNotF (tV (eUn (uIsi 3) (eOp aIxD (eVar 3) (eC (.int 0)))))))) (sRet (eC (.bl false))) sPass) (sSeq sBad (sSeq (sIf (tV (eOp aEq (eB (b1 gLen) (aCons (eVar 3) aNil)) (eC (.int 3)))) sBad sPass) sBad))))
def f_shows_by_looks : List AD → Store → R AD := fnF 5 b_shows_by_looks
theorem fn_shows_by_looks (B : Bu P wd K mg base) {f : Addr} {fd : FuncData} (F : FunD K "shows_by_looks" "shows_by_looks" (defArgs s_shows_by_looks) (defBody s_shows_by_looks) (defScope s_shows_by_looks) [] [] f fd) : FnG P wd K mg base (L2.CX P wd) 6 f fd (["machine", "k", "t", "value"] : List Str) (spF (wo P wd K) f_shows_by_looks 4) :=
  fn_scD F sc_shows_by_looks rfl rfl fun cdv A outer s H E hr =>
    (rss_cons (rs_expr (d_P (w := wo P wd K) (c := none) (ok_look_at_both B) hr (by decide) tkS rfl (ra_cons (rv 0) (ra_cons (rv 1) (ra_cons (rv 2) ra_nil)))))
    (rss_cons (rs_if (rt_w (rw_or (rt_not (rt_v (r_isi (t := 4) ⟨by decide, by decide⟩ rfl B.n_isinstance rfl rfl B.n_tuple rfl (rv 3)))) (rw_or (rt_cmp (o_notinD hr.u16) s_inGD (r_callB call_len s_len rfl B.n_len rfl (ra_cons (rv 3) ra_nil)) (r_tup (ra_cons r_int (ra_cons r_int ra_nil)))) (rw_or1 (rt_not (rt_v (r_isi (t := 3) ⟨by decide, by decide⟩ rfl B.n_isinstance rfl rfl B.n_str rfl (r_ix (x_ixD hr.u16) s_ixD (rv 3) r_int)))))))) (rss_one (rs_ret r_bl)) rss_nil)
    (rss_cons rs_bad
    (rss_cons (rs_if (rt_cmp (o_eq hr.u64) s_eq (r_callB call_len s_len rfl B.n_len rfl (ra_cons (rv 3) ra_nil)) r_int) (rss_one rs_bad) rss_nil)
    (rss_one rs_bad)))))
theorem ok_shows_by_looks (B : Bu P wd K mg base) : DefOk P wd K mg base (wo P wd K) 6 "shows_by_looks" 4 f_shows_by_looks :=
  dok_F B.f_shows_by_looks B.g_shows_by_looks (fun _ _ _ _ _ _ us hl => match us, hl with | [_, _, _, _], _ => rfl) fun fd F => fn_shows_by_looks B F
theorem nsc_0 : NdefX.NScope (["odd"] : List Str) ([] : List Str) (lamd 0).frees (lamd 0).scope := NdefX.nscope_by (by decide +kernel)
def l_0 : List AD → Store → R AD := fun ds μ => ((eCallP 4 f_told_look (aCons (eVar 0) (aCons (eC .non) (aCons (eC .non) (aCons (eC .non) aNil))))) : SE) (startS 1 ds) μ
theorem lam_0 (B : Bu P wd K mg base) : LamOk P wd K mg base (wo P wd K) 5 0 0 l_0 :=
  lam_ok (N := (["odd"] : List Str)) (ps := ([] : List Str)) nsc_0 rfl rfl (fun _ _ _ _ _ us hl => match us, hl with | [], _ => rfl) fun A outer s H E fa c' cl hr =>
    (d_P (w := wo P wd K) (c := none) (ok_told_look B) hr (by decide) tkL rfl (ra_cons (rv 0) (ra_cons r_non (ra_cons r_non (ra_cons r_non ra_nil)))))
theorem nsc_1 : NdefX.NScope (["odd"] : List Str) ([] : List Str) (lamd 1).frees (lamd 1).scope := NdefX.nscope_by (by decide +kernel)
def l_1 : List AD → Store → R AD := fun ds μ => ((eCallP 5 f_same_look (aCons (eVar 0) (aCons (eC .non) (aCons (eC .non) (aCons (eC .non) (aCons (eC .non) aNil)))))) : SE) (startS 1 ds) μ
theorem lam_1 (B : Bu P wd K mg base) : LamOk P wd K mg base (wo P wd K) 5 1 0 l_1 :=
  lam_ok (N := (["odd"] : List Str)) (ps := ([] : List Str)) nsc_1 rfl rfl (fun _ _ _ _ _ us hl => match us, hl with | [], _ => rfl) fun A outer s H E fa c' cl hr =>
    (d_P (w := wo P wd K) (c := none) (ok_same_look B) hr (by decide) tkL rfl (ra_cons (rv 0) (ra_cons r_non (ra_cons r_non (ra_cons r_non (ra_cons r_non ra_nil))))))
theorem nsc_2 : NdefX.NScope (["letters", "odd"] : List Str) ([] : List Str) (lamd 2).frees (lamd 2).scope := NdefX.nscope_by (by decide +kernel)
def l_2 : List AD → Store → R AD := fun ds μ => ((eCallP 4 f_told_look (aCons (eVar 0) (aCons (eVar 1) (aCons (eC .non) (aCons (eC .non) aNil))))) : SE) (startS 2 ds) μ
theorem lam_2 (B : Bu P wd K mg base) : LamOk P wd K mg base (wo P wd K) 5 2 0 l_2 :=
  lam_ok (N := (["letters", "odd"] : List Str)) (ps := ([] : List Str)) nsc_2 rfl rfl (fun _ _ _ _ _ us hl => match us, hl with | [], _ => rfl) fun A outer s H E fa c' cl hr =>
    (d_P (w := wo P wd K) (c := none) (ok_told_look B) hr (by decide) tkL rfl (ra_cons (rv 0) (ra_cons (rv 1) (ra_cons r_non (ra_cons r_non ra_nil)))))
theorem nsc_3 : NdefX.NScope (["letters", "odd"] : List Str) ([] : List Str) (lamd 3).frees (lamd 3).scope := NdefX.nscope_by (by decide +kernel)
def l_3 : List AD → Store → R AD := fun ds μ => ((eCallP 5 f_same_look (aCons (eVar 0) (aCons (eVar 1) (aCons (eC .non) (aCons (eC .non) (aCons (eC .non) aNil)))))) : SE) (startS 2 ds) μ
theorem lam_3 (B : Bu P wd K mg base) : LamOk P wd K mg base (wo P wd K) 5 3 0 l_3 :=
  lam_ok (N := (["letters", "odd"] : List Str)) (ps := ([] : List Str)) nsc_3 rfl rfl (fun _ _ _ _ _ us hl => match us, hl with | [], _ => rfl) fun A outer s H E fa c' cl hr =>
    (d_P (w := wo P wd K) (c := none) (ok_same_look B) hr (by decide) tkL rfl (ra_cons (rv 0) (ra_cons (rv 1) (ra_cons r_non (ra_cons r_non (ra_cons r_non ra_nil))))))
theorem nsc_4 : NdefX.NScope (["letters", "odd"] : List Str) ([] : List Str) (lamd 4).frees (lamd 4).scope := NdefX.nscope_by (by decide +kernel)
def l_4 : List AD → Store → R AD := fun ds μ => ((eCallP 5 f_same_look (aCons (eVar 0) (aCons (eC (.str ("" : Str))) (aCons (eVar 1) (aCons (eC (.int 1)) (aCons (eC (.int 1)) aNil)))))) : SE) (startS 2 ds) μ
theorem lam_4 (B : Bu P wd K mg base) : LamOk P wd K mg base (wo P wd K) 5 4 0 l_4 :=
  lam_ok (N := (["letters", "odd"] : List Str)) (ps := ([] : List Str)) nsc_4 rfl rfl (fun _ _ _ _ _ us hl => match us, hl with | [], _ => rfl) fun A outer s H E fa c' cl hr =>
    (d_P (w := wo P wd K) (c := none) (ok_same_look B) hr (by decide) tkL rfl (ra_cons (rv 0) (ra_cons r_str (ra_cons (rv 1) (ra_cons r_int (ra_cons r_int ra_nil))))))
theorem nsc_5 : NdefX.NScope (["letters", "odd"] : List Str) ([] : List Str) (lamd 5).frees (lamd 5).scope := NdefX.nscope_by (by decide +kernel)
def l_5 : List AD → Store → R AD := fun ds μ => ((eCallP 4 f_told_look (aCons (eVar 0) (aCons (eC (.str ("" : Str))) (aCons (eVar 1) (aCons (eC .non) aNil))))) : SE) (startS 2 ds) μ
theorem lam_5 (B : Bu P wd K mg base) : LamOk P wd K mg base (wo P wd K) 5 5 0 l_5 :=
  lam_ok (N := (["letters", "odd"] : List Str)) (ps := ([] : List Str)) nsc_5 rfl rfl (fun _ _ _ _ _ us hl => match us, hl with | [], _ => rfl) fun A outer s H E fa c' cl hr =>
    (d_P (w := wo P wd K) (c := none) (ok_told_look B) hr (by decide) tkL rfl (ra_cons (rv 0) (ra_cons r_str (ra_cons (rv 1) (ra_cons r_non ra_nil)))))
theorem nsc_6 : NdefX.NScope (["letters", "odd"] : List Str) ([] : List Str) (lamd 6).frees (lamd 6).scope := NdefX.nscope_by (by decide +kernel)
def l_6 : List AD → Store → R AD := fun ds μ => ((eCallP 4 f_told_look (aCons (eVar 0) (aCons (eC (.str ("" : Str))) (aCons (eC (.int 2)) (aCons (eVar 1) aNil))))) : SE) (startS 2 ds) μ
theorem lam_6 (B : Bu P wd K mg base) : LamOk P wd K mg base (wo P wd K) 5 6 0 l_6 :=
  lam_ok (N := (["letters", "odd"] : List Str)) (ps := ([] : List Str)) nsc_6 rfl rfl (fun _ _ _ _ _ us hl => match us, hl with | [], _ => rfl) fun A outer s H E fa c' cl hr =>
    (d_P (w := wo P wd K) (c := none) (ok_told_look B) hr (by decide) tkL rfl (ra_cons (rv 0) (ra_cons r_str (ra_cons r_int (ra_cons (rv 1) ra_nil)))))
theorem nsc_7 : NdefX.NScope (["machine", "odd"] : List Str) ([] : List Str) (lamd 7).frees (lamd 7).scope := NdefX.nscope_by (by decide +kernel)
def l_7 : List AD → Store → R AD := fun ds μ => ((eCallP 3 f_by_looks (aCons (eVar 0) (aCons (eVar 1) (aCons (eC .non) aNil)))) : SE) (startS 2 ds) μ
theorem lam_7 (B : Bu P wd K mg base) : LamOk P wd K mg base (wo P wd K) 7 7 0 l_7 :=
  lam_ok (N := (["machine", "odd"] : List Str)) (ps := ([] : List Str)) nsc_7 rfl rfl (fun _ _ _ _ _ us hl => match us, hl with | [], _ => rfl) fun A outer s H E fa c' cl hr =>
    (d_P (w := wo P wd K) (c := none) (ok_by_looks B) hr (by decide) tkL rfl (ra_cons (rv 0) (ra_cons (rv 1) (ra_cons r_non ra_nil))))
theorem nsc_8 : NdefX.NScope (["machine", "odd"] : List Str) ([] : List Str) (lamd 8).frees (lamd 8).scope := NdefX.nscope_by (by decide +kernel)
def l_8 : List AD → Store → R AD := fun ds μ => ((eCallP 3 f_by_looks (aCons (eVar 0) (aCons (eC (.int 2)) (aCons (eVar 1) aNil)))) : SE) (startS 2 ds) μ
theorem lam_8 (B : Bu P wd K mg base) : LamOk P wd K mg base (wo P wd K) 7 8 0 l_8 :=
  lam_ok (N := (["machine", "odd"] : List Str)) (ps := ([] : List Str)) nsc_8 rfl rfl (fun _ _ _ _ _ us hl => match us, hl with | [], _ => rfl) fun A outer s H E fa c' cl hr =>
    (d_P (w := wo P wd K) (c := none) (ok_by_looks B) hr (by decide) tkL rfl (ra_cons (rv 0) (ra_cons r_int (ra_cons (rv 1) ra_nil))))
theorem nsc_9 : NdefX.NScope (["machine", "odd"] : List Str) ([] : List Str) (lamd 9).frees (lamd 9).scope := NdefX.nscope_by (by decide +kernel)
def l_9 : List AD → Store → R AD := fun ds μ => ((eCallP 4 f_shows_by_looks (aCons (eVar 0) (aCons (eVar 1) (aCons (eC .non) (aCons (eC .non) aNil))))) : SE) (startS 2 ds) μ
theorem lam_9 (B : Bu P wd K mg base) : LamOk P wd K mg base (wo P wd K) 7 9 0 l_9 :=
  lam_ok (N := (["machine", "odd"] : List Str)) (ps := ([] : List Str)) nsc_9 rfl rfl (fun _ _ _ _ _ us hl => match us, hl with | [], _ => rfl) fun A outer s H E fa c' cl hr =>
    (d_P (w := wo P wd K) (c := none) (ok_shows_by_looks B) hr (by decide) tkL rfl (ra_cons (rv 0) (ra_cons (rv 1) (ra_cons r_non (ra_cons r_non ra_nil)))))
theorem nsc_10 : NdefX.NScope (["machine", "odd"] : List Str) ([] : List Str) (lamd 10).frees (lamd 10).scope := NdefX.nscope_by (by decide +kernel)
def l_10 : List AD → Store → R AD := fun ds μ => ((eCallP 4 f_shows_by_looks (aCons (eVar 0) (aCons (eC (.int 2)) (aCons (eVar 1) (aCons (eC .non) aNil))))) : SE) (startS 2 ds) μ
theorem lam_10 (B : Bu P wd K mg base) : LamOk P wd K mg base (wo P wd K) 7 10 0 l_10 :=
  lam_ok (N := (["machine", "odd"] : List Str)) (ps := ([] : List Str)) nsc_10 rfl rfl (fun _ _ _ _ _ us hl => match us, hl with | [], _ => rfl) fun A outer s H E fa c' cl hr =>
    (d_P (w := wo P wd K) (c := none) (ok_shows_by_looks B) hr (by decide) tkL rfl (ra_cons (rv 0) (ra_cons r_int (ra_cons (rv 1) (ra_cons r_non ra_nil)))))
def lf : Nat → Option (Nat × (List AD → Store → R AD))
  | 0 => some (0, l_0)
  | 1 => some (0, l_1)
  | 2 => some (0, l_2)
  | 3 => some (0, l_3)
  | 4 => some (0, l_4)
  | 5 => some (0, l_5)
  | 6 => some (0, l_6)
  | 7 => some (0, l_7)
  | 8 => some (0, l_8)
  | 9 => some (0, l_9)
  | 10 => some (0, l_10)
  | _ => none
theorem lam_all (B : Bu P wd K mg base) : ∀ j np f, lf j = some (np, f) → LamOk P wd K mg base (wo P wd K) 7 j np f := fun j np f h => by
  match j, h with
  | 0, h => cases h; exact (lam_0 B).mono (by decide)
  | 1, h => cases h; exact (lam_1 B).mono (by decide)
  | 2, h => cases h; exact (lam_2 B).mono (by decide)
  | 3, h => cases h; exact (lam_3 B).mono (by decide)
  | 4, h => cases h; exact (lam_4 B).mono (by decide)
  | 5, h => cases h; exact (lam_5 B).mono (by decide)
  | 6, h => cases h; exact (lam_6 B).mono (by decide)
  | 7, h => cases h; exact (lam_7 B).mono (by decide)
  | 8, h => cases h; exact (lam_8 B).mono (by decide)
  | 9, h => cases h; exact (lam_9 B).mono (by decide)
  | 10, h => cases h; exact (lam_10 B).mono (by decide)
  | n + 11, h => cases h
theorem sc__law_heard : FnScope (["call", "caught", "back", "error"] : List Str) (["call"] : List Str) (defScope s__law_heard) := ⟨rfl, rfl, rfl, by decide +kernel, rfl, by decide +kernel, by decide +kernel⟩
def b__law_heard : SS := (sSeq (sAsg (gT [1, 2]) (eTup (aCons (eC .non) (aCons (eC .non) aNil)))) (sSeq (sTryK 3 1 (memS cls) (sSet 2 (eLamC 0 lf aNil))) (sRet (eTup (aCons (eVar 1) (aCons (eVar 2) aNil))))))
def f__law_heard : List AD → Store → R AD := fnF 4 b__law_heard
theorem fn__law_heard (B : Bu P wd K mg base) {f : Addr} {fd : FuncData} (F : FunD K "_law_heard" "_law_heard" (defArgs s__law_heard) (defBody s__law_heard) (defScope s__law_heard) [] [] f fd) : FnG P wd K mg base (L2.CX P wd) 8 f fd (["call"] : List Str) (spF (wo P wd K) f__law_heard 1) :=
  fn_scD F sc__law_heard rfl rfl fun cdv A outer s H E hr =>
    (rss_cons (rs_asg (plain_T [1, 2]) (r_tup (ra_cons r_non (ra_cons r_non ra_nil))) (rg_tup rfl (pgs_cons (pg_name (i := 1) sc__law_heard.nd rfl (by first | exact Or.inl rfl | exact Or.inr rfl)) (pgs_cons (pg_name (i := 2) sc__law_heard.nd rfl (by first | exact Or.inl rfl | exact Or.inr rfl)) pgs_nil))))
    (rss_cons (rs_tryK (i := 3) (j := 1) rfl rfl rfl sc__law_heard.nd rfl rfl (by decide) rfl rfl ⟨rfl, by decide, .inl B.g_PieceError⟩ tkS (fun c hc => B.x.ex c (memS_ok hc)) fun W pn xe tk hp => (rss_one (rs_set (i := 2) sc__law_heard.nd (r_lamC0 (i := 0) (w := wo P wd K) (c := none) rfl (lam_all B) (hr.mono' (by decide)) tk))))
    (rss_one (rs_ret (r_tup (ra_cons (rv 1) (ra_cons (rv 2) ra_nil)))))))
theorem ok__law_heard (B : Bu P wd K mg base) : DefOk P wd K mg base (wo P wd K) 8 "_law_heard" 1 f__law_heard :=
  dok_F B.f__law_heard B.g__law_heard (fun _ _ _ _ _ _ us hl => match us, hl with | [_], _ => rfl) fun fd F => fn__law_heard B F
theorem sc__law_of : FnScope (["pot", "some"] : List Str) (["pot", "some"] : List Str) (defScope s__law_of) := ⟨rfl, rfl, rfl, by decide +kernel, rfl, by decide +kernel, by decide +kernel⟩
def b__law_of : SS := (sRet (eOp aIxD (eVar 1) (eCallR 2 f__law_take (aCons (eVar 0) (aCons (eB (b1 gLen) (aCons (eVar 1) aNil)) aNil)))))
def f__law_of : List AD → Store → R AD := fnF 2 b__law_of
theorem fn__law_of (B : Bu P wd K mg base) {f : Addr} {fd : FuncData} (F : FunD K "_law_of" "_law_of" (defArgs s__law_of) (defBody s__law_of) (defScope s__law_of) [] [] f fd) : FnG P wd K mg base (L2.CX P wd) 2 f fd (["pot", "some"] : List Str) (spF (wo P wd K) f__law_of 2) :=
  fn_scD F sc__law_of rfl rfl fun cdv A outer s H E hr =>
    (rss_one (rs_ret (r_ix (x_ixD hr.u16) s_ixD (rv 1) (d_R (w := wo P wd K) (c := none) (ok__law_take B) hr (by decide) tkS rfl (ra_cons (rv 0) (ra_cons (r_callB call_len s_len rfl B.n_len rfl (ra_cons (rv 1) ra_nil)) ra_nil))))))
theorem ok__law_of (B : Bu P wd K mg base) : DefOk P wd K mg base (wo P wd K) 2 "_law_of" 2 f__law_of :=
  dok_F B.f__law_of B.g__law_of (fun _ _ _ _ _ _ us hl => match us, hl with | [_, _], _ => rfl) fun fd F => fn__law_of B F
theorem sc__law_are_refused : FnScope (["pot", "letters", "odd", "looks", "caught", "machine", "look", "one"] : List Str) (["pot", "letters"] : List Str) (defScope s__law_are_refused) := ⟨rfl, rfl, rfl, by decide +kernel, rfl, by decide +kernel, by decide +kernel⟩
def cap__law_are_refused : List (Nat × List Nat) := [(0, [2]), (1, [2]), (2, [1, 2]), (3, [1, 2]), (4, [1, 2]), (5, [1, 2]), (6, [1, 2]), (7, [5, 2]), (8, [5, 2]), (9, [5, 2]), (10, [5, 2])]
theorem capb__law_are_refused_6 : (cap__law_are_refused.all fun q => capC (["pot", "letters", "odd", "looks", "caught", "machine", "look", "one"] : List Str) (defScope s__law_are_refused) (lamd q.1) q.2 && q.2.all fun i => !([6] : List Nat).contains i) = true := by decide +kernel
theorem capc__law_are_refused : (cap__law_are_refused.all fun q => capC (["pot", "letters", "odd", "looks", "caught", "machine", "look", "one"] : List Str) (defScope s__law_are_refused) (lamd q.1) q.2) = true := by decide +kernel
def b__law_are_refused_0 : SS := (sSet 2 (eCallR 2 f__law_of (aCons (eVar 0) (aCons (eLst (aCons (eC .non) (aCons (eC (.str ("" : Str))) (aCons (eC (.str ("ba" : Str))) (aCons (eC (.str ("aa" : Str))) (aCons (eC (.str ("abcd" : Str))) (aCons (eC (.int 0)) (aCons (eTup (aCons (eC (.str ("a" : Str))) aNil)) aNil)))))))) aNil))))
def b__law_are_refused_1 : SS := (sSet 3 (eOwn (aCons (eLam 0) aNil)))
def b__law_are_refused_2 : SS := (sDrop (eBm (fun d μ => isLst μ d) mApp (eVar 3) (aCons (eLam 1) aNil)))
def b__law_are_refused_3 : SS := (sSet 4 (eLc (iSeq (eVar 3)) [6] (tgN 6) tYesF (eOp aIxD (eCallL 1 f__law_heard (capF cap__law_are_refused) (aCons (eVar 6) aNil)) (eC (.int 0)))))
def b__law_are_refused_4 : SS := (sIf (tNotF (tV (eB (b1 (gBls allB)) (aCons (eLc (iSeq (eVar 4)) [7] (tgN 7) tYesF (eAnd (eUn (uIsX (subU cls "BadLetters")) (eVar 7)) (eRep true (eUn (uVal (memS cls)) (eVar 7)) (eVar 2)))) aNil)))) (sRet (eC (.bl false))) sPass)
def b__law_are_refused_5 : SS := (sSet 2 (eCallR 2 f__law_of (aCons (eVar 0) (aCons (eLst (aCons (eC .non) (aCons (eC (.str ("Q" : Str))) (aCons (eC (.int 0)) (aCons (eTup (aCons (eC (.str ("a" : Str))) aNil)) (aCons (eOp aAdd (eVar 1) (eC (.str ("q" : Str)))) aNil)))))) aNil))))
def b__law_are_refused_6 : SS := (sSet 3 (eOwn (aCons (eLam 2) aNil)))
def b__law_are_refused_7 : SS := (sDrop (eBm (fun d μ => isLst μ d) mApp (eVar 3) (aCons (eLam 3) aNil)))
def b__law_are_refused_8 : SS := (sDrop (eBm (fun d μ => isLst μ d) mApp (eVar 3) (aCons (eLam 4) aNil)))
def b__law_are_refused_9 : SS := (sSet 4 (eLc (iSeq (eVar 3)) [6] (tgN 6) tYesF (eOp aIxD (eCallL 1 f__law_heard (capF cap__law_are_refused) (aCons (eVar 6) aNil)) (eC (.int 0)))))
def b__law_are_refused_10 : SS := (sIf (tNotF (tV (eB (b1 (gBls allB)) (aCons (eLc (iSeq (eVar 4)) [7] (tgN 7) tYesF (eAnd (eUn (uIsX (subU cls "BadWord")) (eVar 7)) (eRep true (eUn (uVal (memS cls)) (eVar 7)) (eVar 2)))) aNil)))) (sRet (eC (.bl false))) sPass)
def b__law_are_refused_11 : SS := (sSet 2 (eCallR 2 f__law_of (aCons (eVar 0) (aCons (eLst (aCons (eC (.int 0)) (aCons (eC (.int 7)) (aCons (eUn uNeg (eC (.int 1))) (aCons (eC .non) (aCons (eC (.bl true)) (aCons (eC (.str ("2" : Str))) aNil))))))) aNil))))
def b__law_are_refused_12 : SS := (sSet 5 (eCallR 3 f__law_drawn (aCons (eVar 0) (aCons (eVar 1) (aCons (eC (.int 3)) aNil)))))
def b__law_are_refused_13 : SS := (sSet 3 (eOwn (aCons (eLam 5) aNil)))
def b__law_are_refused_14 : SS := (sDrop (eBm (fun d μ => isLst μ d) mApp (eVar 3) (aCons (eLam 6) aNil)))
def b__law_are_refused_15 : SS := (sDrop (eBm (fun d μ => isLst μ d) mApp (eVar 3) (aCons (eLam 7) aNil)))
def b__law_are_refused_16 : SS := (sDrop (eBm (fun d μ => isLst μ d) mApp (eVar 3) (aCons (eLam 8) aNil)))
def b__law_are_refused_17 : SS := (sDrop (eBm (fun d μ => isLst μ d) mApp (eVar 3) (aCons (eLam 9) aNil)))
def b__law_are_refused_18 : SS := (sDrop (eBm (fun d μ => isLst μ d) mApp (eVar 3) (aCons (eLam 10) aNil)))
def b__law_are_refused_19 : SS := (sSet 4 (eLc (iSeq (eVar 3)) [6] (tgN 6) tYesF (eOp aIxD (eCallL 1 f__law_heard (capF cap__law_are_refused) (aCons (eVar 6) aNil)) (eC (.int 0)))))
def b__law_are_refused_20 : SS := (sRet (eB (b1 (gBls allB)) (aCons (eLc (iSeq (eVar 4)) [7] (tgN 7) tYesF (eAnd (eUn (uIsX (subU cls "BadNumber")) (eVar 7)) (eRep true (eUn (uVal (memS cls)) (eVar 7)) (eVar 2)))) aNil)))
def b__law_are_refused_r19 : SS := sSeq b__law_are_refused_19 b__law_are_refused_20
def b__law_are_refused_r18 : SS := sSeq b__law_are_refused_18 b__law_are_refused_r19
def b__law_are_refused_r17 : SS := sSeq b__law_are_refused_17 b__law_are_refused_r18
def b__law_are_refused_r16 : SS := sSeq b__law_are_refused_16 b__law_are_refused_r17
def b__law_are_refused_r15 : SS := sSeq b__law_are_refused_15 b__law_are_refused_r16
def b__law_are_refused_r14 : SS := sSeq b__law_are_refused_14 b__law_are_refused_r15
def b__law_are_refused_r13 : SS := sSeq b__law_are_refused_13 b__law_are_refused_r14
def b__law_are_refused_r12 : SS := sSeq b__law_are_refused_12 b__law_are_refused_r13
def b__law_are_refused_r11 : SS := sSeq b__law_are_refused_11 b__law_are_refused_r12
def b__law_are_refused_r10 : SS := sSeq b__law_are_refused_10 b__law_are_refused_r11
def b__law_are_refused_r9 : SS := sSeq b__law_are_refused_9 b__law_are_refused_r10
def b__law_are_refused_r8 : SS := sSeq b__law_are_refused_8 b__law_are_refused_r9
def b__law_are_refused_r7 : SS := sSeq b__law_are_refused_7 b__law_are_refused_r8
def b__law_are_refused_r6 : SS := sSeq b__law_are_refused_6 b__law_are_refused_r7
def b__law_are_refused_r5 : SS := sSeq b__law_are_refused_5 b__law_are_refused_r6
def b__law_are_refused_r4 : SS := sSeq b__law_are_refused_4 b__law_are_refused_r5
def b__law_are_refused_r3 : SS := sSeq b__law_are_refused_3 b__law_are_refused_r4
def b__law_are_refused_r2 : SS := sSeq b__law_are_refused_2 b__law_are_refused_r3
def b__law_are_refused_r1 : SS := sSeq b__law_are_refused_1 b__law_are_refused_r2
def b__law_are_refused_r0 : SS := sSeq b__law_are_refused_0 b__law_are_refused_r1
def b__law_are_refused : SS := b__law_are_refused_r0
def f__law_are_refused : List AD → Store → R AD := fnL 8 b__law_are_refused
theorem ok__law_are_refused (B : Bu P wd K mg base) : DefOk P wd K mg base (wo P wd K) 9 "_law_are_refused" 2 f__law_are_refused :=
  dok_L (pt := ("_law_are_refused", none)) B.f__law_are_refused B.g__law_are_refused (fun _ _ _ _ _ _ us hl => match us, hl with | [_, _], _ => rfl) sc__law_are_refused rfl rfl rfl fun A outer s H E hr =>
    (rss_cons (rs_set (i := 2) sc__law_are_refused.nd (d_R (w := wo P wd K) (ok__law_of B) hr (by decide) tkS rfl (ra_cons (rv 0) (ra_cons (r_lst (ra_cons r_non (ra_cons r_str (ra_cons r_str (ra_cons r_str (ra_cons r_str (ra_cons r_int (ra_cons (r_tup (ra_cons r_str ra_nil)) ra_nil)))))))) ra_nil))))
    (rss_cons (rs_set (i := 3) sc__law_are_refused.nd (r_own (ra_cons (x_lam (pt := ("_law_are_refused", none)) (i := 0) B.x (by decide +kernel) rfl rfl B.tb rfl rfl rfl rfl (by kernel_rfl)) ra_nil)))
    (rss_cons (rs_expr (r_bm s_app PySem.F.plainAttrs_list PySem.F.slot_list_append PySem.F.type_list_append mt_append (rv 3) (ra_cons (x_lam (pt := ("_law_are_refused", none)) (i := 1) B.x (by decide +kernel) rfl rfl B.tb rfl rfl rfl rfl (by kernel_rfl)) ra_nil)))
    (rss_cons (rs_setLcF (i := 4) (own := [("look", 6)]) rfl sc__law_are_refused.nd (ri_any (rv 3)) (blkOk_by (by kernel_rfl)) tg_name (fun pins σ => ⟨fun t G C cl fp J hf hlt => ⟨pg_name (i := 6) sc__law_are_refused.nd rfl (by first | exact Or.inl rfl | exact Or.inr rfl), rts_nil, (r_ixA (x_ixD hr.u16) s_ixD (d_B (w := wo P wd K) (l := cap__law_are_refused) (ok__law_heard B) hr (by decide) rfl (fun _ => rfl) capb__law_are_refused_6 J hf rfl (ra_cons (rv 6) ra_nil) rfl (by decide) rfl rfl) r_int)⟩⟩))
    (rss_cons (rs_if (rt_not (rt_v (r_callB (cr_all rfl) s_all rfl B.n_all rfl (ra_cons (r_lc (own := [("one", 7)]) rfl sc__law_are_refused.nd (ri_any (rv 4)) (blkOk_by (by kernel_rfl)) tg_name (fun s H C cl fp => pg_name (i := 7) sc__law_are_refused.nd rfl (by first | exact Or.inl rfl | exact Or.inr rfl)) (fun s H C cl fp => rts_nil) (fun s H C cl fp => (r_and (x_isU (c := "BadLetters") B.x (fun _ => rfl) (by decide +kernel) rfl B.g_BadLetters rfl B.n_isinstance rfl (rv 7)) (r_one (r_repEq hr.gd hr.u64 rfl B.n_repr (x_val B.x (fun _ => rfl) (rv 7)) (rv 2)))))) ra_nil)))) (rss_one (rs_ret r_bl)) rss_nil)
    (rss_cons (rs_set (i := 2) sc__law_are_refused.nd (d_R (w := wo P wd K) (ok__law_of B) hr (by decide) tkS rfl (ra_cons (rv 0) (ra_cons (r_lst (ra_cons r_non (ra_cons r_str (ra_cons r_int (ra_cons (r_tup (ra_cons r_str ra_nil)) (ra_cons (r_op o_add s_add (rv 1) r_str) ra_nil)))))) ra_nil))))
    (rss_cons (rs_set (i := 3) sc__law_are_refused.nd (r_own (ra_cons (x_lam (pt := ("_law_are_refused", none)) (i := 2) B.x (by decide +kernel) rfl rfl B.tb rfl rfl rfl rfl (by kernel_rfl)) ra_nil)))
    (rss_cons (rs_expr (r_bm s_app PySem.F.plainAttrs_list PySem.F.slot_list_append PySem.F.type_list_append mt_append (rv 3) (ra_cons (x_lam (pt := ("_law_are_refused", none)) (i := 3) B.x (by decide +kernel) rfl rfl B.tb rfl rfl rfl rfl (by kernel_rfl)) ra_nil)))
    (rss_cons (rs_expr (r_bm s_app PySem.F.plainAttrs_list PySem.F.slot_list_append PySem.F.type_list_append mt_append (rv 3) (ra_cons (x_lam (pt := ("_law_are_refused", none)) (i := 4) B.x (by decide +kernel) rfl rfl B.tb rfl rfl rfl rfl (by kernel_rfl)) ra_nil)))
    (rss_cons (rs_setLcF (i := 4) (own := [("look", 6)]) rfl sc__law_are_refused.nd (ri_any (rv 3)) (blkOk_by (by kernel_rfl)) tg_name (fun pins σ => ⟨fun t G C cl fp J hf hlt => ⟨pg_name (i := 6) sc__law_are_refused.nd rfl (by first | exact Or.inl rfl | exact Or.inr rfl), rts_nil, (r_ixA (x_ixD hr.u16) s_ixD (d_B (w := wo P wd K) (l := cap__law_are_refused) (ok__law_heard B) hr (by decide) rfl (fun _ => rfl) capb__law_are_refused_6 J hf rfl (ra_cons (rv 6) ra_nil) rfl (by decide) rfl rfl) r_int)⟩⟩))
    (rss_cons (rs_if (rt_not (rt_v (r_callB (cr_all rfl) s_all rfl B.n_all rfl (ra_cons (r_lc (own := [("one", 7)]) rfl sc__law_are_refused.nd (ri_any (rv 4)) (blkOk_by (by kernel_rfl)) tg_name (fun s H C cl fp => pg_name (i := 7) sc__law_are_refused.nd rfl (by first | exact Or.inl rfl | exact Or.inr rfl)) (fun s H C cl fp => rts_nil) (fun s H C cl fp => (r_and (x_isU (c := "BadWord") B.x (fun _ => rfl) (by decide +kernel) rfl B.g_BadWord rfl B.n_isinstance rfl (rv 7)) (r_one (r_repEq hr.gd hr.u64 rfl B.n_repr (x_val B.x (fun _ => rfl) (rv 7)) (rv 2)))))) ra_nil)))) (rss_one (rs_ret r_bl)) rss_nil)
    (rss_cons (rs_set (i := 2) sc__law_are_refused.nd (d_R (w := wo P wd K) (ok__law_of B) hr (by decide) tkS rfl (ra_cons (rv 0) (ra_cons (r_lst (ra_cons r_int (ra_cons r_int (ra_cons (r_un un_neg s_neg r_int) (ra_cons r_non (ra_cons r_bl (ra_cons r_str ra_nil))))))) ra_nil))))
    (rss_cons (rs_set (i := 5) sc__law_are_refused.nd (d_R (w := wo P wd K) (ok__law_drawn B) hr (by decide) tkS rfl (ra_cons (rv 0) (ra_cons (rv 1) (ra_cons r_int ra_nil)))))
    (rss_cons (rs_set (i := 3) sc__law_are_refused.nd (r_own (ra_cons (x_lam (pt := ("_law_are_refused", none)) (i := 5) B.x (by decide +kernel) rfl rfl B.tb rfl rfl rfl rfl (by kernel_rfl)) ra_nil)))
    (rss_cons (rs_expr (r_bm s_app PySem.F.plainAttrs_list PySem.F.slot_list_append PySem.F.type_list_append mt_append (rv 3) (ra_cons (x_lam (pt := ("_law_are_refused", none)) (i := 6) B.x (by decide +kernel) rfl rfl B.tb rfl rfl rfl rfl (by kernel_rfl)) ra_nil)))
    (rss_cons (rs_expr (r_bm s_app PySem.F.plainAttrs_list PySem.F.slot_list_append PySem.F.type_list_append mt_append (rv 3) (ra_cons (x_lam (pt := ("_law_are_refused", none)) (i := 7) B.x (by decide +kernel) rfl rfl B.tb rfl rfl rfl rfl (by kernel_rfl)) ra_nil)))
    (rss_cons (rs_expr (r_bm s_app PySem.F.plainAttrs_list PySem.F.slot_list_append PySem.F.type_list_append mt_append (rv 3) (ra_cons (x_lam (pt := ("_law_are_refused", none)) (i := 8) B.x (by decide +kernel) rfl rfl B.tb rfl rfl rfl rfl (by kernel_rfl)) ra_nil)))
    (rss_cons (rs_expr (r_bm s_app PySem.F.plainAttrs_list PySem.F.slot_list_append PySem.F.type_list_append mt_append (rv 3) (ra_cons (x_lam (pt := ("_law_are_refused", none)) (i := 9) B.x (by decide +kernel) rfl rfl B.tb rfl rfl rfl rfl (by kernel_rfl)) ra_nil)))
    (rss_cons (rs_expr (r_bm s_app PySem.F.plainAttrs_list PySem.F.slot_list_append PySem.F.type_list_append mt_append (rv 3) (ra_cons (x_lam (pt := ("_law_are_refused", none)) (i := 10) B.x (by decide +kernel) rfl rfl B.tb rfl rfl rfl rfl (by kernel_rfl)) ra_nil)))
    (rss_cons (rs_setLcF (i := 4) (own := [("look", 6)]) rfl sc__law_are_refused.nd (ri_any (rv 3)) (blkOk_by (by kernel_rfl)) tg_name (fun pins σ => ⟨fun t G C cl fp J hf hlt => ⟨pg_name (i := 6) sc__law_are_refused.nd rfl (by first | exact Or.inl rfl | exact Or.inr rfl), rts_nil, (r_ixA (x_ixD hr.u16) s_ixD (d_B (w := wo P wd K) (l := cap__law_are_refused) (ok__law_heard B) hr (by decide) rfl (fun _ => rfl) capb__law_are_refused_6 J hf rfl (ra_cons (rv 6) ra_nil) rfl (by decide) rfl rfl) r_int)⟩⟩))
    (rss_one (rs_ret (r_callB (cr_all rfl) s_all rfl B.n_all rfl (ra_cons (r_lc (own := [("one", 7)]) rfl sc__law_are_refused.nd (ri_any (rv 4)) (blkOk_by (by kernel_rfl)) tg_name (fun s H C cl fp => pg_name (i := 7) sc__law_are_refused.nd rfl (by first | exact Or.inl rfl | exact Or.inr rfl)) (fun s H C cl fp => rts_nil) (fun s H C cl fp => (r_and (x_isU (c := "BadNumber") B.x (fun _ => rfl) (by decide +kernel) rfl B.g_BadNumber rfl B.n_isinstance rfl (rv 7)) (r_one (r_repEq hr.gd hr.u64 rfl B.n_repr (x_val B.x (fun _ => rfl) (rv 7)) (rv 2)))))) ra_nil))))))))))))))))))))))))
theorem sc__law_drawn_word : FnScope (["pot", "letters", "most", "lap"] : List Str) (["pot", "letters", "most"] : List Str) (defScope s__law_drawn_word) := ⟨rfl, rfl, rfl, by decide +kernel, rfl, by decide +kernel, by decide +kernel⟩
def b__law_drawn_word : SS := (sRet (eJoin (eC (.str ("" : Str))) (eLc (iRng1F (eCallR 2 f__law_take (aCons (eVar 0) (aCons (eOp aAdd (eVar 2) (eC (.int 1))) aNil)))) [3] (tgN 3) tYesF (eCallR 2 f__law_of (aCons (eVar 0) (aCons (eB (b1 gListF) (aCons (eVar 1) aNil)) aNil))))))
def f__law_drawn_word : List AD → Store → R AD := fnF 4 b__law_drawn_word
theorem fn__law_drawn_word (B : Bu P wd K mg base) {f : Addr} {fd : FuncData} (F : FunD K "_law_drawn_word" "_law_drawn_word" (defArgs s__law_drawn_word) (defBody s__law_drawn_word) (defScope s__law_drawn_word) [] [] f fd) : FnG P wd K mg base (L2.CX P wd) 3 f fd (["pot", "letters", "most"] : List Str) (spF (wo P wd K) f__law_drawn_word 3) :=
  fn_scD F sc__law_drawn_word rfl rfl fun cdv A outer s H E hr =>
    (rss_one (rs_ret (r_join r_str (r_lc (own := [("lap", 3)]) rfl sc__law_drawn_word.nd (ri_rng1 rfl B.n_range (d_R (w := wo P wd K) (c := none) (ok__law_take B) hr (by decide) tkS rfl (ra_cons (rv 0) (ra_cons (r_op o_add s_add (rv 2) r_int) ra_nil)))) (blkOk_by (by kernel_rfl)) tg_name (fun s H C cl fp => pg_name (i := 3) sc__law_drawn_word.nd rfl (by first | exact Or.inl rfl | exact Or.inr rfl)) (fun s H C cl fp => rts_nil) (fun s H C cl fp => (d_R (w := wo P wd K) (c := none) (ok__law_of B) hr (by decide) tkN rfl (ra_cons (rv 0) (ra_cons (r_callT (call_listA rfl) s_listF rfl B.n_list rfl (ra_cons (rv 1) ra_nil)) ra_nil))))))))
theorem ok__law_drawn_word (B : Bu P wd K mg base) : DefOk P wd K mg base (wo P wd K) 3 "_law_drawn_word" 3 f__law_drawn_word :=
  dok_F B.f__law_drawn_word B.g__law_drawn_word (fun _ _ _ _ _ _ us hl => match us, hl with | [_, _, _], _ => rfl) fun fd F => fn__law_drawn_word B F
theorem sc__law_is_bool : FnScope (["told", "due"] : List Str) (["told", "due"] : List Str) (defScope s__law_is_bool) := ⟨rfl, rfl, rfl, by decide +kernel, rfl, by decide +kernel, by decide +kernel⟩
def b__law_is_bool : SS := (sRet (eAnd (eUn (uIsi 1) (eVar 0)) (eOp aEq (eVar 0) (eVar 1))))
def f__law_is_bool : List AD → Store → R AD := fnF 2 b__law_is_bool
theorem fn__law_is_bool (B : Bu P wd K mg base) {f : Addr} {fd : FuncData} (F : FunD K "_law_is_bool" "_law_is_bool" (defArgs s__law_is_bool) (defBody s__law_is_bool) (defScope s__law_is_bool) [] [] f fd) : FnG P wd K mg base (L2.CX P wd) 1 f fd (["told", "due"] : List Str) (spF (wo P wd K) f__law_is_bool 2) :=
  fn_scD F sc__law_is_bool rfl rfl fun cdv A outer s H E hr =>
    (rss_one (rs_ret (r_and (r_isi (t := 1) ⟨by decide, by decide⟩ rfl B.n_isinstance rfl rfl B.n_bool rfl (rv 0)) (r_one (r_cmp (o_eq hr.u64) s_eq (rv 0) (rv 1))))))
theorem ok__law_is_bool (B : Bu P wd K mg base) : DefOk P wd K mg base (wo P wd K) 1 "_law_is_bool" 2 f__law_is_bool :=
  dok_F B.f__law_is_bool B.g__law_is_bool (fun _ _ _ _ _ _ us hl => match us, hl with | [_, _], _ => rfl) fun fd F => fn__law_is_bool B F
theorem sc__law_letters : FnScope (["pot"] : List Str) (["pot"] : List Str) (defScope s__law_letters) := ⟨rfl, rfl, rfl, by decide +kernel, rfl, by decide +kernel, by decide +kernel⟩
def b__law_letters : SS := (sRet (eCallR 2 f__law_of (aCons (eVar 0) (aCons (eLst (aCons (eC (.str ("a" : Str))) (aCons (eC (.str ("ab" : Str))) (aCons (eC (.str ("ab" : Str))) (aCons (eC (.str ("ab" : Str))) (aCons (eC (.str ("xy" : Str))) (aCons (eC (.str ("abc" : Str))) aNil))))))) aNil))))
def f__law_letters : List AD → Store → R AD := fnF 1 b__law_letters
theorem fn__law_letters (B : Bu P wd K mg base) {f : Addr} {fd : FuncData} (F : FunD K "_law_letters" "_law_letters" (defArgs s__law_letters) (defBody s__law_letters) (defScope s__law_letters) [] [] f fd) : FnG P wd K mg base (L2.CX P wd) 3 f fd (["pot"] : List Str) (spF (wo P wd K) f__law_letters 1) :=
  fn_scD F sc__law_letters rfl rfl fun cdv A outer s H E hr =>
    (rss_one (rs_ret (d_R (w := wo P wd K) (c := none) (ok__law_of B) hr (by decide) tkS rfl (ra_cons (rv 0) (ra_cons (r_lst (ra_cons r_str (ra_cons r_str (ra_cons r_str (ra_cons r_str (ra_cons r_str (ra_cons r_str ra_nil))))))) ra_nil)))))
theorem ok__law_letters (B : Bu P wd K mg base) : DefOk P wd K mg base (wo P wd K) 3 "_law_letters" 1 f__law_letters :=
  dok_F B.f__law_letters B.g__law_letters (fun _ _ _ _ _ _ us hl => match us, hl with | [_], _ => rfl) fun fd F => fn__law_letters B F
theorem sc__law_look : FnScope (["word", "k", "t", "counts", "at", "pieces", "piece"] : List Str) (["word", "k", "t"] : List Str) (defScope s__law_look) := ⟨rfl, rfl, rfl, by decide +kernel, rfl, by decide +kernel, by decide +kernel⟩
def b__law_look : SS := (sSeq (sIf (tV (eOp aLt (eB (b1 gLen) (aCons (eVar 0) aNil)) (eVar 1))) (sRet (eTup (aCons (eVar 0) aNil))) sPass) (sSeq (sSet 3 eDnew) (sSeq (sFor (iRng1F (eOp aAdd (eOp aSub (eB (b1 gLen) (aCons (eVar 0) aNil)) (eVar 1)) (eC (.int 1)))) (gN 4) (sAsg (gSetD (eVar 3) (eSl (eVar 0) (oSo (eVar 4)) (oSo (eOp aAdd (eVar 4) (eVar 1))))) (eOp aAdd (eBm (fun d μ => isDct μ d) mGet (eVar 3) (aCons (eSl (eVar 0) (oSo (eVar 4)) (oSo (eOp aAdd (eVar 4) (eVar 1)))) (aCons (eC (.int 0)) aNil))) (eC (.int 1))))) (sSeq (sSet 5 (eLc (iSeq (eB (b1 gSortDA) (aCons (eVar 3) aNil))) [6] (tgN 6) tYesF (eTup (aCons (eVar 6) (aCons (eB (bb gMin) (aCons (eVar 2) (aCons (eOp aIxD (eVar 3) (eVar 6)) aNil))) aNil))))) (sRet (eTup (aCons (eSl (eVar 0) oNo (oSo (eOp aSub (eVar 1) (eC (.int 1))))) (aCons (eSl (eVar 0) (oSo (eOp aAdd (eOp aSub (eB (b1 gLen) (aCons (eVar 0) aNil)) (eVar 1)) (eC (.int 1)))) oNo) (aCons (eB (b1 gTuple) (aCons (eVar 5) aNil)) aNil)))))))))
def f__law_look : List AD → Store → R AD := fnF 7 b__law_look
theorem fn__law_look (B : Bu P wd K mg base) {f : Addr} {fd : FuncData} (F : FunD K "_law_look" "_law_look" (defArgs s__law_look) (defBody s__law_look) (defScope s__law_look) [] [] f fd) : FnG P wd K mg base (L2.CX P wd) 1 f fd (["word", "k", "t"] : List Str) (spF (wo P wd K) f__law_look 3) :=
  fn_scD F sc__law_look rfl rfl fun cdv A outer s H E hr =>
    (rss_cons (rs_if (rt_cmp o_lt s_lt (r_callB call_len s_len rfl B.n_len rfl (ra_cons (rv 0) ra_nil)) (rv 1)) (rss_one (rs_ret (r_tup (ra_cons (rv 0) ra_nil)))) rss_nil)
    (rss_cons (rs_set (i := 3) sc__law_look.nd r_dnew)
    (rss_cons (rs_for (plain_N 4) poS rfl (ri_rng1 rfl B.n_range (r_op o_add s_add (r_op o_sub s_sub (r_callB call_len s_len rfl B.n_len rfl (ra_cons (rv 0) ra_nil)) (rv 1)) r_int)) (rg_name (i := 4) sc__law_look.nd) (rss_one (rs_asg (plain_SetD _ _) (r_op o_add s_add (r_dget2 hr.u16 (rv 3) (ra_cons (r_sl (rv 0) (ro_so (rv 4)) (ro_so (r_op o_add s_add (rv 4) (rv 1)))) (ra_cons r_int ra_nil))) r_int) (rg_setD hr.u16 (rv 3) (r_sl (rv 0) (ro_so (rv 4)) (ro_so (r_op o_add s_add (rv 4) (rv 1))))))))
    (rss_cons (rs_setLc (i := 5) (own := [("piece", 6)]) rfl sc__law_look.nd (ri_any (r_callB (cr_sortDA rfl) s_sortDA rfl B.n_sorted rfl (ra_cons (rv 3) ra_nil))) (blkOk_by (by kernel_rfl)) tg_name (fun s H C cl fp => pg_name (i := 6) sc__law_look.nd rfl (by first | exact Or.inl rfl | exact Or.inr rfl)) (fun s H C cl fp => rts_nil) (fun s H C cl fp => (r_tup (ra_cons (rv 6) (ra_cons (r_callB (call_min2 rfl) s_min rfl B.n_min rfl (ra_cons (rv 2) (ra_cons (r_ix (x_ixD hr.u16) s_ixD (rv 3) (rv 6)) ra_nil))) ra_nil)))))
    (rss_one (rs_ret (r_tup (ra_cons (r_sl (rv 0) ro_no (ro_so (r_op o_sub s_sub (rv 1) r_int))) (ra_cons (r_sl (rv 0) (ro_so (r_op o_add s_add (r_op o_sub s_sub (r_callB call_len s_len rfl B.n_len rfl (ra_cons (rv 0) ra_nil)) (rv 1)) r_int)) ro_no) (ra_cons (r_callT call_tuple_of s_tuple rfl B.n_tuple rfl (ra_cons (rv 5) ra_nil)) ra_nil))))))))))
theorem ok__law_look (B : Bu P wd K mg base) : DefOk P wd K mg base (wo P wd K) 1 "_law_look" 3 f__law_look :=
  dok_F B.f__law_look B.g__law_look (fun _ _ _ _ _ _ us hl => match us, hl with | [_, _, _], _ => rfl) fun fd F => fn__law_look B F
theorem sc__law_right : FnScope (["pot", "letters", "lap", "word", "at", "near", "k", "t", "other", "due"] : List Str) (["pot"] : List Str) (defScope s__law_right) := ⟨rfl, rfl, rfl, by decide +kernel, rfl, by decide +kernel, by decide +kernel⟩
def b__law_right : SS := (sSeq (sSet 1 (eCallR 1 f__law_letters (aCons (eVar 0) aNil))) (sSeq (sFor (iRng1F (eC (.int 4))) (gN 2) (sSeq (sSet 3 (eCallR 3 f__law_drawn_word (aCons (eVar 0) (aCons (eVar 1) (aCons (eC (.int 9)) aNil))))) (sSeq (sSet 4 (eCallR 2 f__law_take (aCons (eVar 0) (aCons (eOp aAdd (eB (b1 gLen) (aCons (eVar 3) aNil)) (eC (.int 1))) aNil)))) (sSeq (sSet 5 (eLst (aCons (eUn uRev (eVar 3)) (aCons (eOp aAdd (eSl (eVar 3) oNo (oSo (eVar 4))) (eUn uRev (eSl (eVar 3) (oSo (eVar 4)) oNo))) (aCons (eOp aAdd (eVar 3) (eSl (eVar 3) oNo (oSo (eVar 4)))) (aCons (eOp aAdd (eSl (eVar 3) oNo (oSo (eVar 4))) (eVar 3)) (aCons (eOp aAdd (eSl (eVar 3) (oSo (eVar 4)) oNo) (eSl (eVar 3) oNo (oSo (eVar 4)))) aNil))))))) (sFor (iRng2F (eC (.int 1)) (eC (.int 7))) (gN 6) (sSeq (sSet 7 (eOp aAdd (eC (.int 1)) (eCallR 2 f__law_take (aCons (eVar 0) (aCons (eC (.int 6)) aNil))))) (sSeq (sIf (tV (eRep false (eCallK 4 2 2 f_told_look [1, 0] (aCons (eVar 1) (aCons (eVar 3) aNil)) (aCons (eVar 7) (aCons (eVar 6) aNil))) (eCallP 3 f__law_look (aCons (eVar 3) (aCons (eVar 6) (aCons (eVar 7) aNil)))))) (sRet (eC (.bl false))) sPass) (sFor (iSeq (eOp aAdd (eVar 5) (eLst (aCons (eCallR 3 f__law_drawn_word (aCons (eVar 0) (aCons (eVar 1) (aCons (eC (.int 9)) aNil)))) aNil)))) (gN 8) (sSeq (sSet 9 (eOp aEq (eCallP 3 f__law_look (aCons (eVar 3) (aCons (eVar 6) (aCons (eVar 7) aNil)))) (eCallP 3 f__law_look (aCons (eVar 8) (aCons (eVar 6) (aCons (eVar 7) aNil)))))) (sIf (tNotF (tV (eCallP 2 f__law_is_bool (aCons (eCallK 5 3 2 f_same_look [1, 0] (aCons (eVar 1) (aCons (eVar 3) (aCons (eVar 8) aNil))) (aCons (eVar 7) (aCons (eVar 6) aNil))) (aCons (eVar 9) aNil))))) (sRet (eC (.bl false))) sPass)))))))))) (sRet (eCallR 2 f__law_are_refused (aCons (eVar 0) (aCons (eVar 1) aNil))))))
def f__law_right : List AD → Store → R AD := fnF 10 b__law_right
theorem fn__law_right (B : Bu P wd K mg base) {f : Addr} {fd : FuncData} (F : FunD K "_law_right" "_law_right" (defArgs s__law_right) (defBody s__law_right) (defScope s__law_right) [] [] f fd) : FnG P wd K mg base (L2.CX P wd) 10 f fd (["pot"] : List Str) (spF (wo P wd K) f__law_right 1) :=
  fn_scD F sc__law_right rfl rfl fun cdv A outer s H E hr =>
    (rss_cons (rs_set (i := 1) sc__law_right.nd (d_R (w := wo P wd K) (c := none) (ok__law_letters B) hr (by decide) tkS rfl (ra_cons (rv 0) ra_nil)))
    (rss_cons (rs_for (plain_N 2) poS rfl (ri_rng1 rfl B.n_range r_int) (rg_name (i := 2) sc__law_right.nd) (rss_cons (rs_set (i := 3) sc__law_right.nd (d_R (w := wo P wd K) (c := none) (ok__law_drawn_word B) hr (by decide) tkS rfl (ra_cons (rv 0) (ra_cons (rv 1) (ra_cons r_int ra_nil)))))
    (rss_cons (rs_set (i := 4) sc__law_right.nd (d_R (w := wo P wd K) (c := none) (ok__law_take B) hr (by decide) tkS rfl (ra_cons (rv 0) (ra_cons (r_op o_add s_add (r_callB call_len s_len rfl B.n_len rfl (ra_cons (rv 3) ra_nil)) r_int) ra_nil))))
    (rss_cons (rs_set (i := 5) sc__law_right.nd (r_lst (ra_cons (r_rev (rv 3)) (ra_cons (r_op o_add s_add (r_sl (rv 3) ro_no (ro_so (rv 4))) (r_rev (r_sl (rv 3) (ro_so (rv 4)) ro_no))) (ra_cons (r_op o_add s_add (rv 3) (r_sl (rv 3) ro_no (ro_so (rv 4)))) (ra_cons (r_op o_add s_add (r_sl (rv 3) ro_no (ro_so (rv 4))) (rv 3)) (ra_cons (r_op o_add s_add (r_sl (rv 3) (ro_so (rv 4)) ro_no) (r_sl (rv 3) ro_no (ro_so (rv 4)))) ra_nil)))))))
    (rss_one (rs_for (plain_N 6) poS rfl (ri_rng2 rfl B.n_range r_int r_int) (rg_name (i := 6) sc__law_right.nd) (rss_cons (rs_set (i := 7) sc__law_right.nd (r_op o_add s_add r_int (d_R (w := wo P wd K) (c := none) (ok__law_take B) hr (by decide) tkS rfl (ra_cons (rv 0) (ra_cons r_int ra_nil)))))
    (rss_cons (rs_if (rt_repNe hr.gd hr.u64 rfl B.n_repr (d_K (w := wo P wd K) (c := none) (kw_told_look_2_t_k B) hr (by decide) tkS rfl (ra_cons (rv 1) (ra_cons (rv 3) ra_nil)) (rk_cons (rv 7) (rk_cons (rv 6) rk_nil))) (d_P (w := wo P wd K) (c := none) (ok__law_look B) hr (by decide) tkS rfl (ra_cons (rv 3) (ra_cons (rv 6) (ra_cons (rv 7) ra_nil))))) (rss_one (rs_ret r_bl)) rss_nil)
    (rss_one (rs_for (plain_N 8) poS rfl (ri_any (r_op o_add s_add (rv 5) (r_lst (ra_cons (d_R (w := wo P wd K) (c := none) (ok__law_drawn_word B) hr (by decide) tkS rfl (ra_cons (rv 0) (ra_cons (rv 1) (ra_cons r_int ra_nil)))) ra_nil)))) (rg_name (i := 8) sc__law_right.nd) (rss_cons (rs_set (i := 9) sc__law_right.nd (r_cmp (o_eq hr.u64) s_eq (d_P (w := wo P wd K) (c := none) (ok__law_look B) hr (by decide) tkS rfl (ra_cons (rv 3) (ra_cons (rv 6) (ra_cons (rv 7) ra_nil)))) (d_P (w := wo P wd K) (c := none) (ok__law_look B) hr (by decide) tkS rfl (ra_cons (rv 8) (ra_cons (rv 6) (ra_cons (rv 7) ra_nil))))))
    (rss_one (rs_if (rt_not (rt_v (d_P (w := wo P wd K) (c := none) (ok__law_is_bool B) hr (by decide) tkS rfl (ra_cons (d_K (w := wo P wd K) (c := none) (kw_same_look_3_t_k B) hr (by decide) tkS rfl (ra_cons (rv 1) (ra_cons (rv 3) (ra_cons (rv 8) ra_nil))) (rk_cons (rv 7) (rk_cons (rv 6) rk_nil))) (ra_cons (rv 9) ra_nil))))) (rss_one (rs_ret r_bl)) rss_nil)))))))))))))
    (rss_one (rs_ret (d_R (w := wo P wd K) (c := none) (ok__law_are_refused B) hr (by decide) tkS rfl (ra_cons (rv 0) (ra_cons (rv 1) ra_nil)))))))
theorem ok__law_right (B : Bu P wd K mg base) : DefOk P wd K mg base (wo P wd K) 10 "_law_right" 1 f__law_right :=
  dok_F B.f__law_right B.g__law_right (fun _ _ _ _ _ _ us hl => match us, hl with | [_], _ => rfl) fun fd F => fn__law_right B F
theorem sc_law : FnScope (["script", "place"] : List Str) (["script"] : List Str) (defScope s_law) := ⟨rfl, rfl, rfl, by decide +kernel, rfl, by decide +kernel, by decide +kernel⟩
def b_law : SS := (sRet (eB (b1 (gBls allB)) (aCons (eLc (iSeq (eCallP 2 f__law_cells (aCons (eVar 0) (aCons (eC (.int 3)) aNil)))) [1] (tgN 1) tYesF (eCallR 1 f__law_right (aCons (eCallO 2 f__law_pot (aCons (eVar 0) (aCons (eVar 1) aNil))) aNil))) aNil)))
def f_law : List AD → Store → R AD := fnF 2 b_law
theorem fn_law (B : Bu P wd K mg base) {f : Addr} {fd : FuncData} (F : FunD K "law" "law" (defArgs s_law) (defBody s_law) (defScope s_law) [] [] f fd) : FnG P wd K mg base (L2.CX P wd) 11 f fd (["script"] : List Str) (spF (wo P wd K) f_law 1) :=
  fn_scD F sc_law rfl rfl fun cdv A outer s H E hr =>
    (rss_one (rs_ret (r_callB (cr_all rfl) s_all rfl B.n_all rfl (ra_cons (r_lc (own := [("place", 1)]) rfl sc_law.nd (ri_any (d_P (w := wo P wd K) (c := none) (ok__law_cells B) hr (by decide) tkS rfl (ra_cons (rv 0) (ra_cons r_int ra_nil)))) (blkOk_by (by kernel_rfl)) tg_name (fun s H C cl fp => pg_name (i := 1) sc_law.nd rfl (by first | exact Or.inl rfl | exact Or.inr rfl)) (fun s H C cl fp => rts_nil) (fun s H C cl fp => (d_R (w := wo P wd K) (c := none) (ok__law_right B) hr (by decide) tkN rfl (ra_cons (d_O (w := wo P wd K) (c := none) (ok__law_pot B) hr (by decide) tkN rfl (ra_cons (rv 0) (ra_cons (rv 1) ra_nil))) ra_nil)))) ra_nil))))
theorem ok_law (B : Bu P wd K mg base) : DefOk P wd K mg base (wo P wd K) 11 "law" 1 f_law :=
  dok_F B.f_law B.g_law (fun _ _ _ _ _ _ us hl => match us, hl with | [_], _ => rfl) fun fd F => fn_law B F
end G

set_option Elab.async false
set_option linter.all false
set_option maxRecDepth 100000
set_option maxHeartbeats 0
namespace P
open PySem PySem.Spec PyProof.Rows L2 SC G
/-! ### looks -/
def pc (cs : List Nat) (k at_ : Int) : List Nat := cutA cs (some at_) (some (at_ + k))
def mn (t c : Int) : Int := if c < t then c else t
def foldC (cs : List Nat) (k : Int) : Nat → Int → CT → CT
  | 0, _, T => T
  | m + 1, lo, T => foldC cs k m (lo + 1) (tPut T (pc cs k lo) (gt T (pc cs k lo) + 1))
def cnt (cs : List Nat) (k : Int) : CT := foldC cs k ((cs.length : Int) - k + 1).toNat 0 []
def itemsD (T : CT) (t : Int) : List AD := (sortL (T.map (·.1))).map fun q => .tup [.str (lS q), .int (mn t (gt T q))]
def lookD (z : Str) (k t : Int) : AD := if ((sL z).length : Int) < k then .tup [.str z] else
  .tup [.str (lS (cutA (sL z) none (some (k - 1)))), .str (lS (cutA (sL z) (some (((sL z).length : Int) - k + 1)) none)), .tup (itemsD (cnt (sL z) k) t)]
theorem fold_dis (cs : List Nat) (k : Int) : ∀ (m : Nat) (lo : Int) (T : CT), Dis T → Dis (foldC cs k m lo T)
  | 0, _, _, d => d
  | m + 1, lo, T, d => fold_dis cs k m (lo + 1) _ (dis_put d _ _)
theorem fold_len (cs : List Nat) (k : Int) : ∀ (m : Nat) (lo : Int) (T : CT), (foldC cs k m lo T).length ≤ T.length + m
  | 0, _, _ => Nat.le_refl _
  | m + 1, lo, T => by
    have h1 := fold_len cs k m (lo + 1) (tPut T (pc cs k lo) (gt T (pc cs k lo) + 1))
    have h2 := put_len T (pc cs k lo) (gt T (pc cs k lo) + 1)
    show (foldC cs k m (lo + 1) (tPut T (pc cs k lo) (gt T (pc cs k lo) + 1))).length ≤ _
    omega
theorem mn_step {t : Int} (ht : 1 ≤ t) (g : Int) : mn t (mn t g + 1) = mn t (g + 1) := by
  unfold mn
  by_cases h1 : g < t
  · rw [if_pos h1]
  · rw [if_neg h1, if_neg (by omega), if_neg (by omega)]
theorem mn_zero {t : Int} (ht : 1 ≤ t) : mn t 0 = 0 := by unfold mn; rw [if_pos (by omega)]
theorem onV_len (f : Int → Int) (T : CT) : (toK (onV f T)).length = T.length := by unfold toK onV; simp
theorem toK_len (T : CT) : (toK T).length = T.length := by unfold toK; simp
theorem get_step {t : Int} (ht : 1 ≤ t) (T : CT) (p : List Nat) : (match dLook (toK (onV (mn t) T)) (.str (lS p)) with | some d => R.ok d [AO.dct (toK (onV (mn t) T))] | none => R.ok (AD.int 0) [AO.dct (toK (onV (mn t) T))]) = .ok (.int (mn t (gt T p))) [.dct (toK (onV (mn t) T))] := by
  rw [dLook_T, look_onV]
  unfold gt
  cases tLook T p with
  | none => show R.ok (AD.int 0) _ = _; rw [mn_zero ht]
  | some c => rfl
theorem get_step0 (T : CT) (p : List Nat) : (match dLook (toK T) (.str (lS p)) with | some d => R.ok d [AO.dct (toK T)] | none => R.ok (AD.int 0) [AO.dct (toK T)]) = .ok (.int (gt T p)) [.dct (toK T)] := by
  rw [dLook_T]
  unfold gt
  cases tLook T p with
  | none => rfl
  | some c => rfl
def body1 : SS := (sSeq (sSet 5 (eSl (eVar 0) (oSo (eVar 4)) (oSo (eOp aAdd (eVar 4) (eVar 1))))) (sAsg (gSetD (eVar 3) (eVar 5)) (eB (bb gMin) (aCons (eVar 2) (aCons (eOp aAdd (eBm (fun d μ => isDct μ d) mGet (eVar 3) (aCons (eVar 5) (aCons (eC (.int 0)) aNil))) (eC (.int 1))) aNil)))))
def S6 (z : Str) (k t : Int) (x y : Option AD) : Slots := [some (.str z), some (.int k), some (.int t), some (.ref 0), x, y]
theorem size_big {n : Nat} (h : n < 1000000) : decide (n < sizeLine) = true := decide_eq_true (by rw [sizeLine_eq]; omega)
theorem size_le {n : Nat} (h : n < 1000000) : decide (n ≤ sizeLine) = true := decide_eq_true (by rw [sizeLine_eq]; omega)
theorem turn1 (z : Str) (k t lo : Int) (hz : (sL z).length < 1000000) (ht : 1 ≤ t) (T : CT) (hT : T.length < 1000000) (y : Option AD) : body1 (S6 z k t (some (.int lo)) y) [.dct (toK (onV (mn t) T))] = .nx (S6 z k t (some (.int lo)) (some (.str (lS (pc (sL z) k lo))))) [.dct (toK (onV (mn t) (tPut T (pc (sL z) k lo) (gt T (pc (sL z) k lo) + 1))))] := by
  obtain ⟨p, hp⟩ : ∃ p, p = pc (sL z) k lo := ⟨_, rfl⟩
  obtain ⟨μ, hμ⟩ : ∃ μ : Store, μ = [.dct (toK (onV (mn t) T))] := ⟨_, rfl⟩
  have e5 : (eSl (eVar 0) (oSo (eVar 4)) (oSo (eOp aAdd (eVar 4) (eVar 1)))) (S6 z k t (some (.int lo)) y) μ = .ok (.str (lS p)) μ := by
    have : (eSl (eVar 0) (oSo (eVar 4)) (oSo (eOp aAdd (eVar 4) (eVar 1)))) (S6 z k t (some (.int lo)) y) μ = chk (decide ((sL z).length ≤ sizeLine)) (.ok (.str (lS (pc (sL z) k lo))) μ) := rfl
    rw [this, size_le hz, hp]
    rfl
  have g0 : (eBm (fun d μ => isDct μ d) mGet (eVar 3) (aCons (eVar 5) (aCons (eC (.int 0)) aNil))) (S6 z k t (some (.int lo)) (some (.str (lS p)))) μ = .ok (.int (mn t (gt T p))) μ := by
    subst hμ
    have : (eBm (fun d μ => isDct μ d) mGet (eVar 3) (aCons (eVar 5) (aCons (eC (.int 0)) aNil))) (S6 z k t (some (.int lo)) (some (.str (lS p)))) [.dct (toK (onV (mn t) T))] = chk (keyOk (toK (onV (mn t) T)) (.str (lS p))) (match dLook (toK (onV (mn t) T)) (.str (lS p)) with | some d => R.ok d [AO.dct (toK (onV (mn t) T))] | none => R.ok (AD.int 0) [AO.dct (toK (onV (mn t) T))]) := rfl
    rw [this, keyOk_T, get_step ht]
    rfl
  have g1 : (eB (bb gMin) (aCons (eVar 2) (aCons (eOp aAdd (eBm (fun d μ => isDct μ d) mGet (eVar 3) (aCons (eVar 5) (aCons (eC (.int 0)) aNil))) (eC (.int 1))) aNil))) (S6 z k t (some (.int lo)) (some (.str (lS p)))) μ = .ok (.int (mn t (gt T p + 1))) μ := by
    have a1 := (ev_op (o := aAdd) (e2 := eC (.int 1)) (y := .int 1) g0 rfl).trans (rfl : _ = R.ok (AD.int (mn t (gt T p) + 1)) μ)
    refine (ev_B (ev_cons (e := eVar 2) (d := .int t) rfl (ev_cons (f := aNil) (ds := []) a1 rfl))).trans ?_
    show R.ok (AD.int (if mn t (gt T p) + 1 < t then mn t (gt T p) + 1 else t)) μ = _
    rw [← mn_step ht (gt T p)]
    rfl
  have st : (gSetD (eVar 3) (eVar 5)) (.int (mn t (gt T p + 1))) (S6 z k t (some (.int lo)) (some (.str (lS p)))) μ = .nx (S6 z k t (some (.int lo)) (some (.str (lS p)))) [.dct (toK (onV (mn t) (tPut T p (gt T p + 1))))] := by
    subst hμ
    have : (gSetD (eVar 3) (eVar 5)) (.int (mn t (gt T p + 1))) (S6 z k t (some (.int lo)) (some (.str (lS p)))) [.dct (toK (onV (mn t) T))] = (match (if (keyOk (toK (onV (mn t) T)) (.str (lS p)) && decide ((toK (onV (mn t) T)).length < sizeLine)) = true then some (([AO.dct (toK (onV (mn t) T))] : Store).set 0 (.dct (dPut (toK (onV (mn t) T)) (.str (lS p)) (.int (mn t (gt T p + 1)))))) else none) with
      | some μ3 => SR.nx (S6 z k t (some (.int lo)) (some (.str (lS p)))) μ3
      | none => SR.bad) := rfl
    rw [this, keyOk_T, onV_len, size_big hT]
    show SR.nx (S6 z k t (some (.int lo)) (some (.str (lS p)))) [AO.dct (dPut (toK (onV (mn t) T)) (.str (lS p)) (.int (mn t (gt T p + 1))))] = _
    rw [dPut_T, put_onV]
  rw [← hp, ← hμ]
  exact (ev_seq ((ev_set (i := 5) e5).trans (rfl : _ = SR.nx (S6 z k t (some (.int lo)) (some (.str (lS p)))) μ))).trans ((ev_asg g1).trans st)
theorem loop1 (z : Str) (k t : Int) (hz : (sL z).length < 1000000) (ht : 1 ≤ t) : ∀ (m : Nat) (lo : Int) (T : CT) (x y : Option AD), T.length + m < 1000000 → ∃ x' y', forL (gN 4) body1 (rngL lo m) (S6 z k t x y) [.dct (toK (onV (mn t) T))] = .nx (S6 z k t x' y') [.dct (toK (onV (mn t) (foldC (sL z) k m lo T)))]
  | 0, _, _, x, y, _ => ⟨x, y, rfl⟩
  | m + 1, lo, T, x, y, h => by
    have hl := put_len T (pc (sL z) k lo) (gt T (pc (sL z) k lo) + 1)
    obtain ⟨x', y', e⟩ := loop1 z k t hz ht m (lo + 1) (tPut T (pc (sL z) k lo) (gt T (pc (sL z) k lo) + 1)) (some (.int lo)) (some (.str (lS (pc (sL z) k lo)))) (by omega)
    refine ⟨x', y', ?_⟩
    show (match body1 (S6 z k t (some (.int lo)) y) [.dct (toK (onV (mn t) T))] with
      | .nx s2 μ2 => forL (gN 4) body1 (rngL (lo + 1) m) s2 μ2
      | .ct s2 μ2 => forL (gN 4) body1 (rngL (lo + 1) m) s2 μ2
      | .bk s2 μ2 => .nx s2 μ2
      | r => r) = _
    rw [turn1 z k t lo hz ht T (by omega) y]
    exact e
theorem look_of_ok (z : Str) (k t : Int) (hz : (sL z).length < 1000000) (k1 : 1 ≤ k) (k2 : k ≤ 100) (ht : 1 ≤ t) : ∃ μ, f_look_of [.str z, .int k, .int t] [] = .ok (lookD z k t) μ := by
  obtain ⟨S, hS⟩ : ∃ S : Slots, S = S6 z k t none none := ⟨_, rfl⟩
  have ln : ∀ (x y d : Option AD) (μ : Store), (eB (b1 gLen) (aCons (eVar 0) aNil)) [some (.str z), some (.int k), some (.int t), d, x, y] μ = .ok (.int ((sL z).length : Int)) μ := fun x y d μ => by
    have : (eB (b1 gLen) (aCons (eVar 0) aNil)) [some (.str z), some (.int k), some (.int t), d, x, y] μ = chk (decide ((sL z).length ≤ sizeLine)) (.ok (.int ((sL z).length : Int)) μ) := rfl
    rw [this, size_le hz]
    rfl
  have cd : (tV (eOp aLt (eB (b1 gLen) (aCons (eVar 0) aNil)) (eVar 1))) [some (.str z), some (.int k), some (.int t), none, none, none] [] = .ok (decide (((sL z).length : Int) < k)) [] := ev_tv ((ev_op (ln none none none []) (y := .int k) rfl).trans rfl)
  show ∃ μ, R.ofS (b_look_of [some (.str z), some (.int k), some (.int t), none, none, none] []) = _
  by_cases h : ((sL z).length : Int) < k
  · refine ⟨[], ?_⟩
    have : b_look_of [some (.str z), some (.int k), some (.int t), none, none, none] [] = .rt (.tup [.str z]) [] := by
      refine ev_seq_rt ((ev_if cd).trans ?_)
      rw [decide_eq_true h, if_pos rfl]
      kernel_rfl
    rw [this]
    unfold lookD
    rw [if_pos h]
    rfl
  · obtain ⟨m, hm⟩ : ∃ m : Nat, m = (((sL z).length : Int) - k + 1).toNat := ⟨_, rfl⟩
    have hb : m < 1000000 := by omega
    obtain ⟨x', y', lp⟩ := loop1 z k t hz ht m 0 [] none none (by simpa using hb)
    have hT := fold_len (sL z) k m 0 []
    have dT : Dis (foldC (sL z) k m 0 []) := fold_dis (sL z) k m 0 [] List.nodup_nil
    obtain ⟨T, eT⟩ : ∃ T, T = foldC (sL z) k m 0 [] := ⟨_, rfl⟩
    rw [← eT] at lp hT dT
    have rg : (iRng1F (eOp aAdd (eOp aSub (eB (b1 gLen) (aCons (eVar 0) aNil)) (eVar 1)) (eC (.int 1)))) (S6 z k t none none) [.dct []] = .ok (.fix (rngL 0 m)) [.dct []] := by
      have a1 := (ev_op (o := aSub) (ln none none (some (.ref 0)) [.dct []]) (e2 := eVar 1) (y := .int k) rfl).trans (rfl : _ = R.ok (AD.int (((sL z).length : Int) - k)) [AO.dct []])
      have a2 := (ev_op (o := aAdd) a1 (e2 := eC (.int 1)) (y := .int 1) rfl).trans (rfl : _ = R.ok (AD.int (((sL z).length : Int) - k + 1)) [AO.dct []])
      unfold iRng1F
      rw [show S6 z k t none none = [some (.str z), some (.int k), some (.int t), some (.ref 0), none, none] from rfl, a2]
      show chk (decide (-(2 ^ 62) ≤ ((sL z).length : Int) - k + 1) && decide (((sL z).length : Int) - k + 1 < 2 ^ 62)) _ = _
      rw [decide_eq_true (show -(2 ^ 62) ≤ ((sL z).length : Int) - k + 1 by omega), decide_eq_true (show ((sL z).length : Int) - k + 1 < 2 ^ 62 by omega), ← hm]
      rfl
    have fr : (sFor (iRng1F (eOp aAdd (eOp aSub (eB (b1 gLen) (aCons (eVar 0) aNil)) (eVar 1)) (eC (.int 1)))) (gN 4) body1) (S6 z k t none none) [.dct []] = .nx (S6 z k t x' y') [.dct (toK (onV (mn t) T))] := by
      unfold sFor
      rw [rg]
      exact lp
    have so : (eSortIt (eVar 3)) (S6 z k t x' y') [.dct (toK (onV (mn t) T))] = .ok (.ref 1) [.dct (toK (onV (mn t) T)), .lst (itemsD T t)] := by
      have : (eSortIt (eVar 3)) (S6 z k t x' y') [.dct (toK (onV (mn t) T))] = chk (shP (toK (onV (mn t) T))) (.ok (.ref 1) [.dct (toK (onV (mn t) T)), .lst ((sortP (toK (onV (mn t) T))).map fun p => .tup [p.1, p.2])]) := rfl
      rw [this, shP_T, items_T (mn t) T dT]
      rfl
    have tu : (eB (b1 gTuple) (aCons (eSortIt (eVar 3)) aNil)) (S6 z k t x' y') [.dct (toK (onV (mn t) T))] = .ok (.tup (itemsD T t)) [.dct (toK (onV (mn t) T)), .lst (itemsD T t)] := (ev_b1 (u := gTuple) so).trans rfl
    obtain ⟨μ1, hμ1⟩ : ∃ μ1 : Store, μ1 = [.dct (toK (onV (mn t) T))] := ⟨_, rfl⟩
    obtain ⟨μ2, hμ2⟩ : ∃ μ2 : Store, μ2 = [.dct (toK (onV (mn t) T)), .lst (itemsD T t)] := ⟨_, rfl⟩
    rw [← hμ1, ← hμ2] at tu
    have s1 : (eSl (eVar 0) oNo (oSo (eOp aSub (eVar 1) (eC (.int 1))))) (S6 z k t x' y') μ1 = .ok (.str (lS (cutA (sL z) none (some (k - 1))))) μ1 := by
      have : (eSl (eVar 0) oNo (oSo (eOp aSub (eVar 1) (eC (.int 1))))) (S6 z k t x' y') μ1 = chk (decide ((sL z).length ≤ sizeLine)) (.ok (.str (lS (cutA (sL z) none (some (k - 1))))) μ1) := rfl
      rw [this, size_le hz]
      rfl
    have s2 : (eSl (eVar 0) (oSo (eOp aAdd (eOp aSub (eB (b1 gLen) (aCons (eVar 0) aNil)) (eVar 1)) (eC (.int 1)))) oNo) (S6 z k t x' y') μ1 = .ok (.str (lS (cutA (sL z) (some (((sL z).length : Int) - k + 1)) none))) μ1 := by
      have a1 := (ev_op (o := aSub) (ln x' y' (some (.ref 0)) μ1) (e2 := eVar 1) (y := .int k) rfl).trans (rfl : _ = R.ok (AD.int (((sL z).length : Int) - k)) μ1)
      have a2 := (ev_op (o := aAdd) a1 (e2 := eC (.int 1)) (y := .int 1) rfl).trans (rfl : _ = R.ok (AD.int (((sL z).length : Int) - k + 1)) μ1)
      have o1 : (oSo (eOp aAdd (eOp aSub (eB (b1 gLen) (aCons (eVar 0) aNil)) (eVar 1)) (eC (.int 1)))) (S6 z k t x' y') μ1 = .ok (some (((sL z).length : Int) - k + 1)) μ1 := by
        unfold oSo
        rw [show S6 z k t x' y' = [some (.str z), some (.int k), some (.int t), some (.ref 0), x', y'] from rfl, a2]
        rfl
      show ((eVar 0 (S6 z k t x' y') μ1).bind fun x μ1 => ((oSo (eOp aAdd (eOp aSub (eB (b1 gLen) (aCons (eVar 0) aNil)) (eVar 1)) (eC (.int 1)))) (S6 z k t x' y') μ1).bind fun lo μ2 => (oNo (S6 z k t x' y') μ2).bind fun hi μ3 => aSl x lo hi μ3) = _
      rw [show eVar 0 (S6 z k t x' y') μ1 = .ok (.str z) μ1 from rfl]
      show ((oSo (eOp aAdd (eOp aSub (eB (b1 gLen) (aCons (eVar 0) aNil)) (eVar 1)) (eC (.int 1)))) (S6 z k t x' y') μ1).bind _ = _
      rw [o1]
      show chk (decide ((sL z).length ≤ sizeLine)) _ = _
      rw [size_le hz]
      rfl
    have rt : (eTup (aCons (eSl (eVar 0) oNo (oSo (eOp aSub (eVar 1) (eC (.int 1))))) (aCons (eSl (eVar 0) (oSo (eOp aAdd (eOp aSub (eB (b1 gLen) (aCons (eVar 0) aNil)) (eVar 1)) (eC (.int 1)))) oNo) (aCons (eB (b1 gTuple) (aCons (eSortIt (eVar 3)) aNil)) aNil)))) (S6 z k t x' y') μ1 = .ok (lookD z k t) μ2 := by
      unfold eTup
      rw [ev_cons s1 (ev_cons s2 (ev_cons tu (f := aNil) (ds := []) rfl))]
      show chk (decide (3 ≤ sizeLine)) _ = _
      rw [size_le (by decide)]
      unfold lookD cnt
      rw [if_neg h, ← hm, ← eT]
      rfl
    refine ⟨μ2, ?_⟩
    have : b_look_of [some (.str z), some (.int k), some (.int t), none, none, none] [] = .rt (lookD z k t) μ2 := by
      refine (ev_seq (s1 := [some (.str z), some (.int k), some (.int t), none, none, none]) (μ1 := []) ((ev_if cd).trans ?_)).trans ?_
      · rw [decide_eq_false h]; rfl
      refine (ev_seq ((ev_set (i := 3) (e := eDnew) (d := .ref 0) (s := [some (.str z), some (.int k), some (.int t), none, none, none]) (μ := []) (μ1 := [.dct []]) rfl).trans (rfl : _ = SR.nx (S6 z k t none none) [AO.dct []]))).trans ?_
      refine (ev_seq fr).trans ?_
      rw [← hμ1]
      exact ev_ret rt
    rw [this]
    rfl
end P

set_option Elab.async false
set_option linter.all false
set_option maxRecDepth 100000
set_option maxHeartbeats 0
namespace P
open PySem PySem.Spec PyProof.Rows L2 SC G
section
variable {s : Slots} {μ μ1 μ2 μ3 : Store} {fo fi : SE} {fa : SA} {x y v : AD} {ds : List AD} {ty : AD → Store → Bool} {g : AD → List AD → Store → R AD}
theorem ev_bm (h1 : fo s μ = .ok x μ1) (h2 : ty x μ1 = true) (h3 : fa s μ1 = .ok ds μ2) : eBm ty g fo fa s μ = g x ds μ2 := by
  unfold eBm
  rw [h1]
  show chk (ty x μ1) _ = _
  rw [h2]
  show R.bind (fa s μ1) _ = _
  rw [h3]
  rfl
theorem ev_gset (h1 : fo s μ = .ok x μ1) (h2 : fi s μ1 = .ok y μ2) (h3 : aSetD x y v μ2 = some μ3) : gSetD fo fi v s μ = .nx s μ3 := by
  unfold gSetD
  rw [h1]
  show R.st (fi s μ1) s _ = _
  rw [h2]
  show (match aSetD x y v μ2 with | some μ3 => SR.nx s μ3 | none => SR.bad) = _
  rw [h3]
end
def body2 : SS := (sAsg (gSetD (eVar 3) (eSl (eVar 0) (oSo (eVar 4)) (oSo (eOp aAdd (eVar 4) (eVar 1))))) (eOp aAdd (eBm (fun d μ => isDct μ d) mGet (eVar 3) (aCons (eSl (eVar 0) (oSo (eVar 4)) (oSo (eOp aAdd (eVar 4) (eVar 1)))) (aCons (eC (.int 0)) aNil))) (eC (.int 1))))
def S7 (z : Str) (k t : Int) (x p : Option AD) : Slots := [some (.str z), some (.int k), some (.int t), some (.ref 0), x, p, none]
theorem turn2 (z : Str) (k t lo : Int) (hz : (sL z).length < 1000000) (T : CT) (hT : T.length < 1000000) : body2 (S7 z k t (some (.int lo)) none) [.dct (toK T)] = .nx (S7 z k t (some (.int lo)) none) [.dct (toK (tPut T (pc (sL z) k lo) (gt T (pc (sL z) k lo) + 1)))] := by
  obtain ⟨p, hp⟩ : ∃ p, p = pc (sL z) k lo := ⟨_, rfl⟩
  obtain ⟨μ, hμ⟩ : ∃ μ : Store, μ = [.dct (toK T)] := ⟨_, rfl⟩
  have e5 : (eSl (eVar 0) (oSo (eVar 4)) (oSo (eOp aAdd (eVar 4) (eVar 1)))) (S7 z k t (some (.int lo)) none) μ = .ok (.str (lS p)) μ := by
    have : (eSl (eVar 0) (oSo (eVar 4)) (oSo (eOp aAdd (eVar 4) (eVar 1)))) (S7 z k t (some (.int lo)) none) μ = chk (decide ((sL z).length ≤ sizeLine)) (.ok (.str (lS (pc (sL z) k lo))) μ) := rfl
    rw [this, size_le hz, hp]
    rfl
  have dc : dctD μ (.ref 0) = some (0, toK T) := by rw [hμ]; rfl
  have g0 : (eBm (fun d μ => isDct μ d) mGet (eVar 3) (aCons (eSl (eVar 0) (oSo (eVar 4)) (oSo (eOp aAdd (eVar 4) (eVar 1)))) (aCons (eC (.int 0)) aNil))) (S7 z k t (some (.int lo)) none) μ = .ok (.int (gt T p)) μ := by
    refine (ev_bm (x := .ref 0) (μ1 := μ) rfl (by unfold isDct; rw [dc]) (ev_cons e5 (ev_cons (e := eC (.int 0)) (d := .int 0) (f := aNil) (ds := []) rfl rfl))).trans ?_
    unfold mGet
    simp only [dc, keyOk_T]
    rw [dLook_T]
    unfold gt
    cases tLook T p <;> rfl
  have a1 := (ev_op (o := aAdd) (e2 := eC (.int 1)) (y := .int 1) g0 rfl).trans (rfl : _ = R.ok (AD.int (gt T p + 1)) μ)
  have st : aSetD (.ref 0) (.str (lS p)) (.int (gt T p + 1)) μ = some [.dct (toK (tPut T p (gt T p + 1)))] := by
    unfold aSetD
    simp only [dc, keyOk_T, toK_len, size_big hT]
    rw [hμ, dPut_T]
    rfl
  rw [← hp, ← hμ]
  exact (ev_asg a1).trans (ev_gset (x := .ref 0) (μ1 := μ) rfl e5 st)
theorem loop2 (z : Str) (k t : Int) (hz : (sL z).length < 1000000) : ∀ (m : Nat) (lo : Int) (T : CT) (x : Option AD), T.length + m < 1000000 → ∃ x', forL (gN 4) body2 (rngL lo m) (S7 z k t x none) [.dct (toK T)] = .nx (S7 z k t x' none) [.dct (toK (foldC (sL z) k m lo T))]
  | 0, _, _, x, _ => ⟨x, rfl⟩
  | m + 1, lo, T, x, h => by
    have hl := put_len T (pc (sL z) k lo) (gt T (pc (sL z) k lo) + 1)
    obtain ⟨x', e⟩ := loop2 z k t hz m (lo + 1) (tPut T (pc (sL z) k lo) (gt T (pc (sL z) k lo) + 1)) (some (.int lo)) (by omega)
    refine ⟨x', ?_⟩
    show (match body2 (S7 z k t (some (.int lo)) none) [.dct (toK T)] with
      | .nx s2 μ2 => forL (gN 4) body2 (rngL (lo + 1) m) s2 μ2
      | .ct s2 μ2 => forL (gN 4) body2 (rngL (lo + 1) m) s2 μ2
      | .bk s2 μ2 => .nx s2 μ2
      | r => r) = _
    rw [turn2 z k t lo hz T (by omega)]
    exact e
def itemH (T : CT) (t : Int) : AD → AD
  | .str x => .tup [.str x, .int (mn t (gt T (sL x)))]
  | _ => .non
def fe2 : SE := (eTup (aCons (eVar 6) (aCons (eB (bb gMin) (aCons (eVar 2) (aCons (eOp aIxD (eVar 3) (eVar 6)) aNil))) aNil)))
theorem law_look_ok (z : Str) (k t : Int) (hz : (sL z).length < 60) (k1 : 1 ≤ k) (k2 : k ≤ 100) : ∃ μ, f__law_look [.str z, .int k, .int t] [] = .ok (lookD z k t) μ := by
  have hz6 : (sL z).length < 1000000 := by omega
  have ln : ∀ (x y d p : Option AD) (μ : Store), (eB (b1 gLen) (aCons (eVar 0) aNil)) [some (.str z), some (.int k), some (.int t), d, x, y, p] μ = .ok (.int ((sL z).length : Int)) μ := fun x y d p μ => by
    have : (eB (b1 gLen) (aCons (eVar 0) aNil)) [some (.str z), some (.int k), some (.int t), d, x, y, p] μ = chk (decide ((sL z).length ≤ sizeLine)) (.ok (.int ((sL z).length : Int)) μ) := rfl
    rw [this, size_le hz6]
    rfl
  have cd : (tV (eOp aLt (eB (b1 gLen) (aCons (eVar 0) aNil)) (eVar 1))) [some (.str z), some (.int k), some (.int t), none, none, none, none] [] = .ok (decide (((sL z).length : Int) < k)) [] := ev_tv ((ev_op (ln none none none none []) (y := .int k) rfl).trans rfl)
  show ∃ μ, R.ofS (b__law_look [some (.str z), some (.int k), some (.int t), none, none, none, none] []) = _
  by_cases h : ((sL z).length : Int) < k
  · refine ⟨[], ?_⟩
    have : b__law_look [some (.str z), some (.int k), some (.int t), none, none, none, none] [] = .rt (.tup [.str z]) [] := by
      refine ev_seq_rt ((ev_if cd).trans ?_)
      rw [decide_eq_true h, if_pos rfl]
      kernel_rfl
    rw [this]
    unfold lookD
    rw [if_pos h]
    rfl
  · obtain ⟨m, hm⟩ : ∃ m : Nat, m = (((sL z).length : Int) - k + 1).toNat := ⟨_, rfl⟩
    have hb : m < 60 := by omega
    obtain ⟨x', lp⟩ := loop2 z k t hz6 m 0 [] none (by simp; omega)
    have hT := fold_len (sL z) k m 0 []
    obtain ⟨T, eT⟩ : ∃ T, T = foldC (sL z) k m 0 [] := ⟨_, rfl⟩
    rw [← eT] at lp hT
    have hT' : T.length < 60 := by simp at hT; omega
    have rg : (iRng1F (eOp aAdd (eOp aSub (eB (b1 gLen) (aCons (eVar 0) aNil)) (eVar 1)) (eC (.int 1)))) (S7 z k t none none) [.dct []] = .ok (.fix (rngL 0 m)) [.dct []] := by
      have a1 := (ev_op (o := aSub) (ln none none (some (.ref 0)) none [.dct []]) (e2 := eVar 1) (y := .int k) rfl).trans (rfl : _ = R.ok (AD.int (((sL z).length : Int) - k)) [AO.dct []])
      have a2 := (ev_op (o := aAdd) a1 (e2 := eC (.int 1)) (y := .int 1) rfl).trans (rfl : _ = R.ok (AD.int (((sL z).length : Int) - k + 1)) [AO.dct []])
      unfold iRng1F
      rw [show S7 z k t none none = [some (.str z), some (.int k), some (.int t), some (.ref 0), none, none, none] from rfl, a2]
      show chk (decide (-(2 ^ 62) ≤ ((sL z).length : Int) - k + 1) && decide (((sL z).length : Int) - k + 1 < 2 ^ 62)) _ = _
      rw [decide_eq_true (show -(2 ^ 62) ≤ ((sL z).length : Int) - k + 1 by omega), decide_eq_true (show ((sL z).length : Int) - k + 1 < 2 ^ 62 by omega), ← hm]
      rfl
    have fr : (sFor (iRng1F (eOp aAdd (eOp aSub (eB (b1 gLen) (aCons (eVar 0) aNil)) (eVar 1)) (eC (.int 1)))) (gN 4) body2) (S7 z k t none none) [.dct []] = .nx (S7 z k t x' none) [.dct (toK T)] := by
      unfold sFor
      rw [rg]
      exact lp
    obtain ⟨ks, hks⟩ : ∃ ks : List AD, ks = (sortL (T.map (·.1))).map fun q => .str (lS q) := ⟨_, rfl⟩
    have so : (eB (b1 gSortDA) (aCons (eVar 3) aNil)) (S7 z k t x' none) [.dct (toK T)] = .ok (.ref 1) [.dct (toK T), .lst ks] := by
      refine (ev_b1 (u := gSortDA) (x := .ref 0) (μ1 := [.dct (toK T)]) rfl).trans ?_
      unfold gSortDA
      rw [show dctD [AO.dct (toK T)] (.ref 0) = some (0, toK T) from rfl]
      simp only [keyStrs_T]
      rw [List.length_map, decide_eq_true (show T.length < 64 by omega), List.map_map]
      rw [show (sL ∘ fun p : List Nat × Int => lS p.1) = (·.1) from funext fun p => sL_lS p.1, ← hks]
      rfl
    have it : (iSeq (eB (b1 gSortDA) (aCons (eVar 3) aNil))) (S7 z k t x' none) [.dct (toK T)] = .ok (.own 1) [.dct (toK T), .lst ks] := by
      unfold iSeq
      rw [so]
      rfl
    obtain ⟨μ2, hμ2⟩ : ∃ μ2 : Store, μ2 = [.dct (toK T), .lst ks] := ⟨_, rfl⟩
    have el : ∀ d ∈ ks, PureAt (tgN 6) tYesF fe2 (S7 z k t x' none) μ2 d (itemH T t d) := fun d hd acc => by
      rw [hks] at hd
      obtain ⟨q, hq, rfl⟩ := List.mem_map.mp hd
      have hq' := (sortL_mem _ _).mp hq
      refine ⟨[some (.str z), some (.int k), some (.int t), some (.ref 0), x', none, some (.str (lS q))], rfl, rfl, ?_⟩
      have dc : dctD (μ2 ++ [.lst acc]) (.ref 0) = some (0, toK T) := by rw [hμ2]; rfl
      have ix : (eOp aIxD (eVar 3) (eVar 6)) [some (.str z), some (.int k), some (.int t), some (.ref 0), x', none, some (.str (lS q))] (μ2 ++ [.lst acc]) = .ok (.int (gt T q)) (μ2 ++ [.lst acc]) := by
        refine (ev_op (x := .ref 0) (y := .str (lS q)) rfl rfl).trans ?_
        unfold aIxD
        simp only [dc, keyOk_T, get_T hq']
        rfl
      have mi : (eB (bb gMin) (aCons (eVar 2) (aCons (eOp aIxD (eVar 3) (eVar 6)) aNil))) [some (.str z), some (.int k), some (.int t), some (.ref 0), x', none, some (.str (lS q))] (μ2 ++ [.lst acc]) = .ok (.int (mn t (gt T q))) (μ2 ++ [.lst acc]) := (ev_B (ev_cons (e := eVar 2) (d := .int t) rfl (ev_cons (f := aNil) (ds := []) ix rfl))).trans rfl
      unfold fe2 eTup
      rw [ev_cons (e := eVar 6) (d := .str (lS q)) rfl (ev_cons mi (f := aNil) (ds := []) rfl)]
      show chk (decide (2 ≤ sizeLine)) _ = _
      rw [size_le (by decide)]
      show R.ok (AD.tup [.str (lS q), .int (mn t (gt T q))]) _ = R.ok (AD.tup [.str (lS q), .int (mn t (gt T (sL (lS q))))]) _
      rw [sL_lS]
    have kl : ks.length < 60 := by rw [hks, List.length_map, (sortL_perm _).length_eq, List.length_map]; exact hT'
    have im : ks.map (itemH T t) = itemsD T t := by
      rw [hks, List.map_map]
      refine List.map_congr_left fun q _ => ?_
      show AD.tup [.str (lS q), .int (mn t (gt T (sL (lS q))))] = _
      rw [sL_lS]
    have lc : (eLc (iSeq (eB (b1 gSortDA) (aCons (eVar 3) aNil))) [6] (tgN 6) tYesF fe2) (S7 z k t x' none) [.dct (toK T)] = .ok (.ref 2) (μ2 ++ [.lst (itemsD T t)]) := by
      have q := ev_lcO (h := itemH T t) (vs := [6]) (gs := tgN 6) (tt := tYesF) (fe := fe2) (m := 1) (ds := ks) (it.trans (congrArg (R.ok (Src.own 1)) hμ2.symm)) (by rw [hμ2]; rfl) el (by omega)
      rw [im] at q
      rw [q, hμ2]
      rfl
    obtain ⟨μ3, hμ3⟩ : ∃ μ3 : Store, μ3 = μ2 ++ [.lst (itemsD T t)] := ⟨_, rfl⟩
    rw [← hμ3] at lc
    have tu : (eB (b1 gTuple) (aCons (eVar 5) aNil)) (S7 z k t x' (some (.ref 2))) μ3 = .ok (.tup (itemsD T t)) μ3 := (ev_b1 (u := gTuple) (x := .ref 2) (μ1 := μ3) rfl).trans (by rw [hμ3, hμ2]; rfl)
    have s1 : (eSl (eVar 0) oNo (oSo (eOp aSub (eVar 1) (eC (.int 1))))) (S7 z k t x' (some (.ref 2))) μ3 = .ok (.str (lS (cutA (sL z) none (some (k - 1))))) μ3 := by
      have : (eSl (eVar 0) oNo (oSo (eOp aSub (eVar 1) (eC (.int 1))))) (S7 z k t x' (some (.ref 2))) μ3 = chk (decide ((sL z).length ≤ sizeLine)) (.ok (.str (lS (cutA (sL z) none (some (k - 1))))) μ3) := rfl
      rw [this, size_le hz6]
      rfl
    have s2 : (eSl (eVar 0) (oSo (eOp aAdd (eOp aSub (eB (b1 gLen) (aCons (eVar 0) aNil)) (eVar 1)) (eC (.int 1)))) oNo) (S7 z k t x' (some (.ref 2))) μ3 = .ok (.str (lS (cutA (sL z) (some (((sL z).length : Int) - k + 1)) none))) μ3 := by
      have a1 := (ev_op (o := aSub) (ln x' (some (.ref 2)) (some (.ref 0)) none μ3) (e2 := eVar 1) (y := .int k) rfl).trans (rfl : _ = R.ok (AD.int (((sL z).length : Int) - k)) μ3)
      have a2 := (ev_op (o := aAdd) a1 (e2 := eC (.int 1)) (y := .int 1) rfl).trans (rfl : _ = R.ok (AD.int (((sL z).length : Int) - k + 1)) μ3)
      have o1 : (oSo (eOp aAdd (eOp aSub (eB (b1 gLen) (aCons (eVar 0) aNil)) (eVar 1)) (eC (.int 1)))) (S7 z k t x' (some (.ref 2))) μ3 = .ok (some (((sL z).length : Int) - k + 1)) μ3 := by
        unfold oSo
        rw [show S7 z k t x' (some (.ref 2)) = [some (.str z), some (.int k), some (.int t), some (.ref 0), x', some (.ref 2), none] from rfl, a2]
        rfl
      show ((oSo (eOp aAdd (eOp aSub (eB (b1 gLen) (aCons (eVar 0) aNil)) (eVar 1)) (eC (.int 1)))) (S7 z k t x' (some (.ref 2))) μ3).bind _ = _
      rw [o1]
      show chk (decide ((sL z).length ≤ sizeLine)) _ = _
      rw [size_le hz6]
      rfl
    refine ⟨μ3, ?_⟩
    have : b__law_look [some (.str z), some (.int k), some (.int t), none, none, none, none] [] = .rt (lookD z k t) μ3 := by
      refine (ev_seq (s1 := [some (.str z), some (.int k), some (.int t), none, none, none, none]) (μ1 := []) ((ev_if cd).trans ?_)).trans ?_
      · rw [decide_eq_false h]; rfl
      refine (ev_seq ((ev_set (i := 3) (e := eDnew) (d := .ref 0) (s := [some (.str z), some (.int k), some (.int t), none, none, none, none]) (μ := []) (μ1 := [.dct []]) rfl).trans (rfl : _ = SR.nx (S7 z k t none none) [AO.dct []]))).trans ?_
      refine (ev_seq fr).trans ?_
      refine (ev_seq ((ev_set (i := 5) lc).trans (rfl : _ = SR.nx (S7 z k t x' (some (.ref 2))) μ3))).trans ?_
      refine ev_ret ?_
      unfold eTup
      rw [ev_cons s1 (ev_cons s2 (ev_cons tu (f := aNil) (ds := []) rfl))]
      show chk (decide (3 ≤ sizeLine)) _ = _
      rw [size_le (by decide)]
      unfold lookD cnt
      rw [if_neg h, ← hm, ← eT]
      rfl
    rw [this]
    rfl
end P

set_option Elab.async false
set_option linter.all false
set_option maxRecDepth 100000
set_option maxHeartbeats 1000000
namespace P
open PySem PySem.Spec PyProof.Rows L2 SC G
def OkS (x : Str) : Prop := (∀ c ∈ sL x, c < 1114112) ∧ (sL x).length < 60
theorem oks_allN {x : Str} (h : OkS x) : allN (fun c => Nat.blt c 1114112) (sL x) = true := by
  rw [allN_all, List.all_eq_true]
  intro c hc
  rw [Nat.blt_eq]
  exact h.1 c hc
theorem oks_sub {x : Str} (h : OkS x) {l : List Nat} (hs : ∀ c ∈ l, c ∈ sL x) (hl : l.length ≤ (sL x).length) : OkS (lS l) := by
  refine ⟨fun c hc => ?_, ?_⟩
  · rw [sL_lS] at hc; exact h.1 c (hs c hc)
  · rw [sL_lS]; exact Nat.lt_of_le_of_lt hl h.2
theorem cut_mem {cs : List Nat} {lo hi : Option Int} {c : Nat} (h : c ∈ cutA cs lo hi) : c ∈ cs := by
  unfold cutA at h
  exact List.mem_of_mem_drop (List.mem_of_mem_take h)
theorem cut_len (cs : List Nat) (lo hi : Option Int) : (cutA cs lo hi).length ≤ cs.length := by
  unfold cutA
  rw [List.length_take, List.length_drop]
  omega
theorem oks_cut {x : Str} (h : OkS x) (lo hi : Option Int) : OkS (lS (cutA (sL x) lo hi)) := oks_sub h (fun _ => cut_mem) (cut_len _ _ _)
/-! ### the shape of a look -/
def itemP (p : Str × Int) : AD := .tup [.str p.1, .int p.2]
inductive Lk : AD → Prop
  | one {z : Str} : OkS z → Lk (.tup [.str z])
  | all {a b : Str} {l : List (Str × Int)} : OkS a → OkS b → l.length < 60 → (∀ p ∈ l, OkS p.1 ∧ 0 ≤ p.2 ∧ p.2 ≤ 100) → Lk (.tup [.str a, .str b, .tup (l.map itemP)])
section
variable {μ ν : Store} {d e : AD}
theorem Lk.ok' (k : Nat) (h : Lk d) : okA μ (k + 4) d = true := by
  cases h with
  | one h =>
    show (allN (fun c => Nat.blt c 1114112) _ && true) = true
    rw [oks_allN h]; rfl
  | @all a b l ha hb hl hp =>
    show (allN (fun c => Nat.blt c 1114112) _ && (allN (fun c => Nat.blt c 1114112) _ && ((l.map itemP).all (okA μ (k + 2)) && true))) = true
    rw [oks_allN ha, oks_allN hb]
    have : (l.map itemP).all (okA μ (k + 2)) = true := List.all_eq_true.mpr fun x hx => by
      obtain ⟨p, q, rfl⟩ := List.mem_map.mp hx
      show (allN (fun c => Nat.blt c 1114112) _ && (true && true)) = true
      rw [oks_allN (hp p q).1]; rfl
    rw [this]; rfl
theorem Lk.ok (h : Lk d) : okA μ 60 d = true := Lk.ok' 56 h
theorem Lk.pl' (k : Nat) (h : Lk d) : plD (k + 4) d = true := by
  cases h with
  | one h => rfl
  | @all a b l ha hb hl hp =>
    show (true && (true && ((l.map itemP).all (plD (k + 2)) && true))) = true
    have : (l.map itemP).all (plD (k + 2)) = true := List.all_eq_true.mpr fun x hx => by
      obtain ⟨p, q, rfl⟩ := List.mem_map.mp hx
      rfl
    rw [this]; rfl
theorem Lk.pl (h : Lk d) : plD 400 d = true := Lk.pl' 396 h
theorem log2_small {v : Int} (h0 : 0 ≤ v) (h1 : v ≤ 100) : v.natAbs.log2 < 7 := by
  by_cases e : v.natAbs = 0
  · rw [e]; decide
  · exact (Nat.log2_lt e).mpr (by omega)
theorem sumN_le {f : AD → Nat} {B : Nat} : ∀ l : List AD, (∀ x ∈ l, f x ≤ B) → sumN f l ≤ l.length * (B + 1)
  | [], _ => Nat.zero_le _
  | a :: r, h => by
    have h1 := h a (by simp)
    have h2 := sumN_le r fun x hx => h x (by simp [hx])
    show f a + 1 + sumN f r ≤ (r.length + 1) * (B + 1)
    rw [Nat.add_mul, Nat.one_mul]
    omega
theorem Lk.lt' (k : Nat) (h : Lk d) : ltA μ 59 (k + 4) d = true := by
  cases h with
  | one h => rfl
  | @all a b l ha hb hl hp =>
    show (true && (true && ((l.map itemP).all (ltA μ 59 (k + 2)) && true))) = true
    have : (l.map itemP).all (ltA μ 59 (k + 2)) = true := List.all_eq_true.mpr fun x hx => by
      obtain ⟨p, q, rfl⟩ := List.mem_map.mp hx
      show (true && (Nat.blt p.2.natAbs.log2 59 && true)) = true
      have := log2_small (hp p q).2.1 (hp p q).2.2
      rw [show Nat.blt p.2.natAbs.log2 59 = true by rw [Nat.blt_eq]; omega]
      rfl
    rw [this]; rfl
theorem Lk.wt' (k : Nat) (h : Lk d) : wtA μ (k + 4) d ≤ 200000 := by
  cases h with
  | @one z h =>
    have e : wtA μ (k + 4) (.tup [.str z]) = (sL z).length + 1 + 0 := rfl
    rw [e]
    have := h.2
    omega
  | @all a b l ha hb hl hp =>
    have e : wtA μ (k + 4) (.tup [.str a, .str b, .tup (l.map itemP)]) = (sL a).length + 1 + ((sL b).length + 1 + (sumN (wtA μ (k + 2)) (l.map itemP) + 1 + 0)) := rfl
    rw [e]
    have := ha.2
    have := hb.2
    have q := sumN_le (f := wtA μ (k + 2)) (B := 100) (l.map itemP) fun x hx => by
      obtain ⟨p, q, rfl⟩ := List.mem_map.mp hx
      have e2 : wtA μ (k + 2) (itemP p) = (sL p.1).length + 1 + (p.2.natAbs.log2 + 1 + 1 + 0) := rfl
      rw [e2]
      have := log2_small (hp p q).2.1 (hp p q).2.2
      have := (hp p q).1.2
      omega
    rw [List.length_map] at q
    omega
theorem Lk.show (h : Lk d) : showA μ d = true := by
  unfold showA
  rw [h.ok, Lk.lt' 56 h, Nat.ble_eq.mpr (Lk.wt' 56 h)]
  rfl
theorem sameAs_refl {f : AD → AD → Bool} : ∀ l : List AD, (∀ x ∈ l, f x x = true) → sameAs f l l = true
  | [], _ => rfl
  | a :: r, h => by
    show (f a a && sameAs f r r) = true
    rw [h a (by simp), sameAs_refl r fun x hx => h x (by simp [hx])]
    rfl
theorem eqL_refl (l : List Nat) : eqL l l = true := eqL_iff.mpr rfl
theorem Lk.same' (k : Nat) (h : Lk d) : sameA μ ν (k + 4) d d = true := by
  cases h with
  | one h => show (eqL _ _ && true) = true; rw [eqL_refl]; rfl
  | @all a b l ha hb hl hp =>
    show (eqL _ _ && (eqL _ _ && (sameAs (sameA μ ν (k + 2)) (l.map itemP) (l.map itemP) && true))) = true
    rw [eqL_refl, eqL_refl, sameAs_refl (l.map itemP) fun x hx => by
      obtain ⟨p, q, rfl⟩ := List.mem_map.mp hx
      show (eqL _ _ && (decide (p.2 = p.2) && true)) = true
      rw [eqL_refl, decide_eq_true rfl]
      rfl]
    rfl
theorem Lk.same (h : Lk d) : sameA μ ν 60 d d = true := Lk.same' 56 h
theorem eqAs_items (k : Nat) : ∀ l m : List (Str × Int), eqAs (eqA μ (k + 2)) (l.map itemP) (m.map itemP) = eqAs (eqA ν (k + 2)) (l.map itemP) (m.map itemP)
  | [], [] => rfl
  | [], _ :: _ => rfl
  | _ :: _, [] => rfl
  | p :: r, q :: s => by
    show (eqA μ (k + 2) (itemP p) (itemP q) && eqAs (eqA μ (k + 2)) (r.map itemP) (s.map itemP)) = (eqA ν (k + 2) (itemP p) (itemP q) && eqAs (eqA ν (k + 2)) (r.map itemP) (s.map itemP))
    rw [eqAs_items k r s]
    rfl
theorem Lk.eq' (n : Nat) (h : Lk d) (k : Lk e) : eqA μ (n + 4) d e = eqA ν (n + 4) d e := by
  cases h with
  | one h =>
    cases k with
    | one k => rfl
    | all _ _ _ _ => rfl
  | @all a b l ha hb hl hp =>
    cases k with
    | one k => rfl
    | @all a' b' l' _ _ _ _ =>
      show (eqL _ _ && (eqL _ _ && (eqAs (eqA μ (n + 2)) (l.map itemP) (l'.map itemP) && true))) = (eqL _ _ && (eqL _ _ && (eqAs (eqA ν (n + 2)) (l.map itemP) (l'.map itemP) && true)))
      rw [eqAs_items (μ := μ) (ν := ν)]
theorem Lk.eq (h : Lk d) (k : Lk e) : eqA μ 60 d e = eqA ν 60 d e := Lk.eq' 56 h k
end
/-! ### a look is of this shape -/
theorem put_keys (T : CT) (k : List Nat) (v : Int) : ∀ q ∈ (tPut T k v).map (·.1), q ∈ T.map (·.1) ∨ q = k := fun q h => by
  unfold tPut at h
  cases e : tLook T k with
  | some u =>
    rw [e] at h
    have h : q ∈ (tMap T k v).map (·.1) := h
    rw [tMap_keys] at h
    exact .inl h
  | none =>
    rw [e] at h
    have h : q ∈ (T ++ [(k, v)]).map (·.1) := h
    rw [List.map_append, List.mem_append] at h
    rcases h with h | h
    · exact .inl h
    · exact .inr (by simpa using h)
theorem fold_keys (cs : List Nat) (k : Int) : ∀ (m : Nat) (lo : Int) (T : CT), ∀ q ∈ (foldC cs k m lo T).map (·.1), q ∈ T.map (·.1) ∨ ∃ i, q = pc cs k i
  | 0, _, _, q, h => .inl h
  | m + 1, lo, T, q, h => by
    rcases fold_keys cs k m (lo + 1) _ q h with h | h
    · rcases put_keys T _ _ q h with h | h
      · exact .inl h
      · exact .inr ⟨lo, h⟩
    · exact .inr h
theorem gt_tMap (k q : List Nat) (v : Int) : ∀ T : CT, tLook (tMap T k v) q = tLook T q ∨ tLook (tMap T k v) q = some v
  | [] => .inl rfl
  | (a, u) :: r => by
    show (if eqL a q then some (if eqL a k then v else u) else tLook (tMap r k v) q) = (if eqL a q then some u else tLook r q) ∨ (if eqL a q then some (if eqL a k then v else u) else tLook (tMap r k v) q) = some v
    by_cases h1 : eqL a q = true
    · rw [if_pos h1, if_pos h1]
      by_cases h2 : eqL a k = true
      · rw [if_pos h2]; exact .inr rfl
      · rw [if_neg h2]; exact .inl rfl
    · rw [if_neg h1, if_neg h1]
      exact gt_tMap k q v r
theorem look_app (T : CT) (k q : List Nat) (v : Int) : tLook (T ++ [(k, v)]) q = tLook T q ∨ tLook (T ++ [(k, v)]) q = some v := by
  induction T with
  | nil =>
    show (if eqL k q then some v else none) = none ∨ (if eqL k q then some v else none) = some v
    split
    · exact .inr rfl
    · exact .inl rfl
  | cons p r ih =>
    obtain ⟨a, u⟩ := p
    show (if eqL a q then some u else tLook (r ++ [(k, v)]) q) = (if eqL a q then some u else tLook r q) ∨ (if eqL a q then some u else tLook (r ++ [(k, v)]) q) = some v
    split
    · exact .inl rfl
    · exact ih
theorem gt_put (T : CT) (k q : List Nat) (v : Int) : gt (tPut T k v) q = gt T q ∨ gt (tPut T k v) q = v := by
  have key : tLook (tPut T k v) q = tLook T q ∨ tLook (tPut T k v) q = some v := by
    unfold tPut
    cases tLook T k with
    | some u => exact gt_tMap k q v T
    | none => exact look_app T k q v
  unfold gt
  rcases key with h | h
  · rw [h]; exact .inl rfl
  · rw [h]; exact .inr rfl
theorem fold_pos (cs : List Nat) (k : Int) : ∀ (m : Nat) (lo : Int) (T : CT), (∀ q, 0 ≤ gt T q) → ∀ q, 0 ≤ gt (foldC cs k m lo T) q
  | 0, _, _, h => h
  | m + 1, lo, T, h => fold_pos cs k m (lo + 1) _ fun q => by
    rcases gt_put T (pc cs k lo) q (gt T (pc cs k lo) + 1) with e | e
    · rw [e]; exact h q
    · rw [e]; have := h (pc cs k lo); omega
theorem look_lk {z : Str} {k t : Int} (hz : OkS z) (k1 : 1 ≤ k) (t1 : 1 ≤ t) (t2 : t ≤ 6) : Lk (lookD z k t) := by
  unfold lookD
  split
  · exact .one hz
  · rename_i h
    obtain ⟨T, hT⟩ : ∃ T, T = cnt (sL z) k := ⟨_, rfl⟩
    have ln : T.length < 60 := by
      have := fold_len (sL z) k (((sL z).length : Int) - k + 1).toNat 0 []
      have h2 := hz.2
      rw [hT]
      unfold cnt
      simp at this
      omega
    have e : itemsD T t = ((sortL (T.map (·.1))).map fun q => (lS q, mn t (gt T q))).map itemP := by
      unfold itemsD
      rw [List.map_map]
      rfl
    rw [← hT, e]
    refine .all (oks_cut hz _ _) (oks_cut hz _ _) (by rw [List.length_map, (sortL_perm _).length_eq, List.length_map]; exact ln) fun p hp => ?_
    obtain ⟨q, hq, rfl⟩ := List.mem_map.mp hp
    have hq' := (sortL_mem _ _).mp hq
    have g0 := fold_pos (sL z) k (((sL z).length : Int) - k + 1).toNat 0 [] (fun _ => Int.le_refl 0) q
    rw [show foldC (sL z) k (((sL z).length : Int) - k + 1).toNat 0 [] = T from hT.symm] at g0
    refine ⟨?_, ?_, ?_⟩
    · rw [hT] at hq'
      rcases fold_keys (sL z) k _ 0 [] q hq' with h | ⟨i, h⟩
      · simp at h
      · show OkS (lS q)
        rw [h]
        exact oks_cut hz _ _
    · show 0 ≤ mn t (gt T q)
      unfold mn
      split <;> omega
    · show mn t (gt T q) ≤ 100
      unfold mn
      split <;> omega
/-! ### calls -/
theorem callP_pl {n : Nat} {f : List AD → Store → R AD} {ds : List AD} {μ μ' : Store} {d : AD} (hn : ds.length = n) (ho : ds.all (okD fz) = true) (h : f ds [] = .ok d μ') (hd : plD 400 d = true) : callP n f ds μ = .ok d μ := by
  unfold callP
  rw [if_pos hn, if_pos ho, h]
  show (match frzD true 0 μ' fz d with | some d' => R.ok d' μ | none => R.bad) = _
  rw [show frzD true 0 μ' fz d = some d from frz_pl 400 d hd]
theorem callP_exc {n : Nat} {f : List AD → Store → R AD} {ds : List AD} {μ μ' : Store} {d : AD} {c : Str} (hn : ds.length = n) (ho : ds.all (okD fz) = true) (h : f ds [] = .exc c d μ') (hd : plD 400 d = true) : callP n f ds μ = .exc c d μ := by
  unfold callP
  rw [if_pos hn, if_pos ho, h]
  show (match frzD true 0 μ' fz d with | some d' => R.exc c d' μ | none => R.bad) = _
  rw [show frzD true 0 μ' fz d = some d from frz_pl 400 d hd]
end P

set_option Elab.async false
set_option linter.all false
set_option maxRecDepth 100000
set_option maxHeartbeats 1000000
namespace P
open PySem PySem.Spec PyProof.Rows L2 SC G
section
variable {s s1 : Slots} {μ μ1 μ2 : Store} {e e2 : SE} {t : ST} {fa fk : SA} {f g : SS} {d x : AD} {ds zs : List AD} {b : Bool} {n np nk : Nat} {h : List AD → Store → R AD} {ix : List Nat}
theorem ev_and (h1 : e s μ = .ok (.bl true) μ1) : eAnd e e2 s μ = e2 s μ1 := by unfold eAnd; rw [h1]; rfl
theorem ev_not (h1 : t s μ = .ok b μ1) : tNotF t s μ = .ok (!b) μ1 := by unfold tNotF; rw [h1]; rfl
theorem ev_drop (h1 : e s μ = .ok d μ1) : sDrop e s μ = .nx s μ1 := by unfold sDrop; rw [h1]; rfl
theorem ev_callP (h1 : fa s μ = .ok ds μ1) (h2 : callP n h ds μ1 = x') : eCallP n h fa s μ = x' := by unfold eCallP; rw [h1]; exact h2
theorem ev_callK (h1 : fa s μ = .ok ds μ1) (h2 : fk s μ1 = .ok zs μ2) (h3 : ds.length = np) (h4 : zs.length = nk) (h5 : callP n h (ds ++ pick ix zs) μ2 = x') : eCallK n np nk h ix fa fk s μ = x' := by
  unfold eCallK
  rw [h1]
  show R.bind (fk s μ1) _ = _
  rw [h2]
  show (if ds.length = np ∧ zs.length = nk then _ else _) = _
  rw [if_pos ⟨h3, h4⟩]
  exact h5
end
/-- letters that are taken -/
structure Lt (L : Str) : Prop where
  r : f_look_at_letters [.str L] [] = .ok .non []
  ch : ∀ c, memN c (sL L) = true → c < 1114112
  n0 : 0 < (sL L).length
  n1 : (sL L).length ≤ 3
theorem lt_of {L : Str} (h : f_look_at_letters [.str L] [] = .ok .non []) (hl : (sL L).all (fun c => Nat.blt c 1114112) = true) (n : (Nat.blt 0 (sL L).length && Nat.ble (sL L).length 3) = true) : Lt L := by
  rw [Bool.and_eq_true, Nat.blt_eq, Nat.ble_eq] at n
  refine ⟨h, fun c hc => ?_, n.1, n.2⟩
  rw [← memN_iff, decide_eq_true_eq] at hc
  have := List.all_eq_true.mp hl c hc
  rwa [Nat.blt_eq] at this
theorem lt_a : Lt "a" := lt_of (by kernel_rfl) (by kernel_rfl) (by kernel_rfl)
theorem lt_ab : Lt "ab" := lt_of (by kernel_rfl) (by kernel_rfl) (by kernel_rfl)
theorem lt_xy : Lt "xy" := lt_of (by kernel_rfl) (by kernel_rfl) (by kernel_rfl)
theorem lt_abc : Lt "abc" := lt_of (by kernel_rfl) (by kernel_rfl) (by kernel_rfl)
/-- a word of the letters, of at most n letters -/
structure Wd (L w : Str) (n : Nat) : Prop where
  m : ∀ c ∈ sL w, memN c (sL L) = true
  l : (sL w).length ≤ n
theorem Wd.ok {L w : Str} {n : Nat} (h : Wd L w n) (hL : Lt L) (hn : n < 60) : OkS w := ⟨fun c hc => hL.ch c (h.m c hc), by have := h.l; omega⟩
section
variable {L w z : Str} {n : Nat} {k t : Int} {μ : Store}
theorem is_word_ok (h : Wd L w n) (hn : n < 60) : ∃ μ', f_is_word [.str L, .str w] [] = .ok (.bl true) μ' := by
  obtain ⟨S, hS⟩ : ∃ S : Slots, S = [some (.str L), some (.str w), none] := ⟨_, rfl⟩
  have hw := h.l
  have e1 : eUn (uIsi 3) (eVar 1) S [] = .ok (.bl true) [] := by rw [hS]; rfl
  have e2 : eOp aLe (eB (b1 gLen) (aCons (eVar 1) aNil)) (eC (.int 5000)) S [] = .ok (.bl true) [] := by
    have q : (eB (b1 gLen) (aCons (eVar 1) aNil)) S [] = .ok (.int ((sL w).length : Int)) [] := by
      have : (eB (b1 gLen) (aCons (eVar 1) aNil)) S [] = chk (decide ((sL w).length ≤ sizeLine)) (.ok (.int ((sL w).length : Int)) []) := by rw [hS]; rfl
      rw [this, size_le (by omega)]
      rfl
    refine (ev_op q (e2 := eC (.int 5000)) (y := .int 5000) rfl).trans ?_
    show R.ok (AD.bl (decide (((sL w).length : Int) ≤ 5000))) [] = _
    rw [decide_eq_true (by omega)]
  have it : iSeq (eVar 1) S [] = .ok (.fix (chars (sL w))) [] := by rw [hS]; rfl
  obtain ⟨μ', e3⟩ := ev_all (vs := [2]) (gs := tgN 2) (tt := tYesF) (fe := eOp (aInGD false) (eVar 2) (eVar 0)) it (fun d hd acc => by
    obtain ⟨c, hc, rfl⟩ := List.mem_map.mp hd
    refine ⟨[some (.str L), some (.str w), some (.str (lS [c]))], by rw [hS]; rfl, rfl, ?_⟩
    have : (eOp (aInGD false) (eVar 2) (eVar 0)) [some (.str L), some (.str w), some (.str (lS [c]))] ([] ++ [AO.lst acc]) = .ok (.bl (memN c (sL L))) ([] ++ [AO.lst acc]) := rfl
    rw [this, h.m c hc]) (by rw [chars, List.length_map]; omega)
  refine ⟨μ', ?_⟩
  have : b_is_word S [] = .rt (.bl true) μ' := ev_ret ((ev_and e1).trans ((ev_and e2).trans e3))
  show R.ofS (b_is_word [some (.str L), some (.str w), none] []) = _
  rw [← hS, this]
  rfl
theorem okS_str : ([AD.str L, AD.str w] : List AD).all (okD fz) = true := rfl
theorem word_ok (h : Wd L w n) (hn : n < 60) : callP 2 f_look_at_word [.str L, .str w] μ = .ok .non μ := by
  obtain ⟨μ', e⟩ := is_word_ok h hn
  have c1 : (eCallP 2 f_is_word (aCons (eVar 0) (aCons (eVar 1) aNil))) [some (.str L), some (.str w)] [] = .ok (.bl true) [] := ev_callP rfl (callP_pl rfl rfl e rfl)
  refine callP_pl rfl rfl (?_ : f_look_at_word [.str L, .str w] [] = .ok .non []) rfl
  have : b_look_at_word [some (.str L), some (.str w)] [] = .nx [some (.str L), some (.str w)] [] := by
    refine (ev_if (ev_not (ev_tv c1))).trans ?_
    rfl
  show R.ofS (b_look_at_word [some (.str L), some (.str w)] []) = _
  rw [this]
  rfl
theorem six {P : Int → Prop} (h1 : P 1) (h2 : P 2) (h3 : P 3) (h4 : P 4) (h5 : P 5) (h6 : P 6) : ∀ k : Int, 1 ≤ k → k ≤ 6 → P k := fun k a b => by
  have : k = 1 ∨ k = 2 ∨ k = 3 ∨ k = 4 ∨ k = 5 ∨ k = 6 := by omega
  rcases this with rfl | rfl | rfl | rfl | rfl | rfl <;> assumption
theorem num_ok (k1 : 1 ≤ k) (k2 : k ≤ 6) : callP 3 f_look_at_number [.int k, .int 1, .int 6] μ = .ok .non μ :=
  callP_pl rfl rfl (six (P := fun k => f_look_at_number [.int k, .int 1, .int 6] [] = .ok .non []) (by kernel_rfl) (by kernel_rfl) (by kernel_rfl) (by kernel_rfl) (by kernel_rfl) (by kernel_rfl) k k1 k2) rfl
theorem let_ok (hL : Lt L) : callP 1 f_look_at_letters [.str L] μ = .ok .non μ := callP_pl rfl rfl hL.r rfl
theorem lookP_ok (h : OkS w) (k1 : 1 ≤ k) (k2 : k ≤ 6) (t1 : 1 ≤ t) (t2 : t ≤ 6) : callP 3 f_look_of [.str w, .int k, .int t] μ = .ok (lookD w k t) μ := by
  have hw := h.2
  obtain ⟨μ', e⟩ := look_of_ok w k t (by omega) k1 (by omega) t1
  exact callP_pl rfl rfl e (look_lk h k1 t1 t2).pl
theorem lookL_ok (h : OkS w) (k1 : 1 ≤ k) (k2 : k ≤ 6) (t1 : 1 ≤ t) (t2 : t ≤ 6) : callP 3 f__law_look [.str w, .int k, .int t] μ = .ok (lookD w k t) μ := by
  have hw := h.2
  obtain ⟨μ', e⟩ := law_look_ok w k t (by omega) k1 (by omega)
  exact callP_pl rfl rfl e (look_lk h k1 t1 t2).pl
theorem told_ok (hL : Lt L) (h : Wd L w n) (hn : n < 60) (k1 : 1 ≤ k) (k2 : k ≤ 6) (t1 : 1 ≤ t) (t2 : t ≤ 6) : callP 4 f_told_look [.str L, .str w, .int k, .int t] μ = .ok (lookD w k t) μ := by
  obtain ⟨S, hS⟩ : ∃ S : Slots, S = [some (.str L), some (.str w), some (.int k), some (.int t)] := ⟨_, rfl⟩
  have a1 : (eCallP 1 f_look_at_letters (aCons (eVar 0) aNil)) S [] = .ok .non [] := ev_callP (by rw [hS]; rfl) (let_ok hL)
  have a2 : (eCallP 2 f_look_at_word (aCons (eVar 0) (aCons (eVar 1) aNil))) S [] = .ok .non [] := ev_callP (by rw [hS]; rfl) (word_ok h hn)
  have a3 : (eCallP 3 f_look_at_number (aCons (eVar 2) (aCons (eC (.int 1)) (aCons (eC (.int 6)) aNil)))) S [] = .ok .non [] := ev_callP (by rw [hS]; rfl) (num_ok k1 k2)
  have a4 : (eCallP 3 f_look_at_number (aCons (eVar 3) (aCons (eC (.int 1)) (aCons (eC (.int 6)) aNil)))) S [] = .ok .non [] := ev_callP (by rw [hS]; rfl) (num_ok t1 t2)
  have a5 : (eCallP 3 f_look_of (aCons (eVar 1) (aCons (eVar 2) (aCons (eVar 3) aNil)))) S [] = .ok (lookD w k t) [] := ev_callP (by rw [hS]; rfl) (lookP_ok (h.ok hL hn) k1 k2 t1 t2)
  have : b_told_look S [] = .rt (lookD w k t) [] := (ev_seq (ev_drop a1)).trans ((ev_seq (ev_drop a2)).trans ((ev_seq (ev_drop a3)).trans ((ev_seq (ev_drop a4)).trans (ev_ret a5))))
  refine callP_pl rfl rfl (?_ : f_told_look [.str L, .str w, .int k, .int t] [] = .ok (lookD w k t) []) (look_lk (h.ok hL hn) k1 t1 t2).pl
  show R.ofS (b_told_look [some (.str L), some (.str w), some (.int k), some (.int t)] []) = _
  rw [← hS, this]
  rfl
theorem eq_ok {d e : AD} (hd : Lk d) (he : Lk e) : aEq d e μ = .ok (.bl (eqA [] 60 d e)) μ := by
  show chk (okA μ 60 d && okA μ 60 e) (R.ok (AD.bl (eqA μ 60 d e)) μ) = _
  rw [hd.ok, he.ok, hd.eq he (ν := [])]
  rfl
theorem same_ok {m : Nat} (hL : Lt L) (h : Wd L w n) (hn : n < 60) (hz : Wd L z m) (hm : m < 60) (k1 : 1 ≤ k) (k2 : k ≤ 6) (t1 : 1 ≤ t) (t2 : t ≤ 6) : callP 5 f_same_look [.str L, .str w, .str z, .int k, .int t] μ = .ok (.bl (eqA [] 60 (lookD w k t) (lookD z k t))) μ := by
  obtain ⟨S, hS⟩ : ∃ S : Slots, S = [some (.str L), some (.str w), some (.str z), some (.int k), some (.int t)] := ⟨_, rfl⟩
  have a1 : (eCallP 1 f_look_at_letters (aCons (eVar 0) aNil)) S [] = .ok .non [] := ev_callP (by rw [hS]; rfl) (let_ok hL)
  have a2 : (eCallP 2 f_look_at_word (aCons (eVar 0) (aCons (eVar 1) aNil))) S [] = .ok .non [] := ev_callP (by rw [hS]; rfl) (word_ok h hn)
  have a2' : (eCallP 2 f_look_at_word (aCons (eVar 0) (aCons (eVar 2) aNil))) S [] = .ok .non [] := ev_callP (by rw [hS]; rfl) (word_ok hz hm)
  have a3 : (eCallP 3 f_look_at_number (aCons (eVar 3) (aCons (eC (.int 1)) (aCons (eC (.int 6)) aNil)))) S [] = .ok .non [] := ev_callP (by rw [hS]; rfl) (num_ok k1 k2)
  have a4 : (eCallP 3 f_look_at_number (aCons (eVar 4) (aCons (eC (.int 1)) (aCons (eC (.int 6)) aNil)))) S [] = .ok .non [] := ev_callP (by rw [hS]; rfl) (num_ok t1 t2)
  have a5 : (eCallP 3 f_look_of (aCons (eVar 1) (aCons (eVar 3) (aCons (eVar 4) aNil)))) S [] = .ok (lookD w k t) [] := ev_callP (by rw [hS]; rfl) (lookP_ok (h.ok hL hn) k1 k2 t1 t2)
  have a6 : (eCallP 3 f_look_of (aCons (eVar 2) (aCons (eVar 3) (aCons (eVar 4) aNil)))) S [] = .ok (lookD z k t) [] := ev_callP (by rw [hS]; rfl) (lookP_ok (hz.ok hL hm) k1 k2 t1 t2)
  have a7 := (ev_op (o := aEq) a5 a6).trans (eq_ok (look_lk (h.ok hL hn) k1 t1 t2) (look_lk (hz.ok hL hm) k1 t1 t2))
  have : b_same_look S [] = .rt (.bl (eqA [] 60 (lookD w k t) (lookD z k t))) [] := (ev_seq (ev_drop a1)).trans ((ev_seq (ev_drop a2)).trans ((ev_seq (ev_drop a2')).trans ((ev_seq (ev_drop a3)).trans ((ev_seq (ev_drop a4)).trans (ev_ret a7)))))
  refine callP_pl rfl rfl (?_ : f_same_look [.str L, .str w, .str z, .int k, .int t] [] = .ok (.bl (eqA [] 60 (lookD w k t) (lookD z k t))) []) rfl
  show R.ofS (b_same_look [some (.str L), some (.str w), some (.str z), some (.int k), some (.int t)] []) = _
  rw [← hS, this]
  rfl
theorem bool_ok (b : Bool) : callP 2 f__law_is_bool [.bl b, .bl b] μ = .ok (.bl true) μ := by
  refine callP_pl rfl rfl (?_ : f__law_is_bool [.bl b, .bl b] [] = .ok (.bl true) []) rfl
  cases b <;> kernel_rfl
end
end P

set_option Elab.async false
set_option linter.all false
set_option maxRecDepth 100000
set_option maxHeartbeats 1000000
namespace P
open PySem PySem.Spec PyProof.Rows L2 SC G
/-! ### draws -/
theorem callR_pot {n j : Nat} {f : List AD → Store → R AD} {rest : List AD} {μ ρ : Store} {d : AD} {a b c a' b' c' : Int} (hj : μ[j]? = some (potO a b c)) (hn : (AD.ref j :: rest).length = n) (ho : rest.all (okD fz) = true) (h : f (.ref 0 :: rest) [potO a b c] = .ok d (potO a' b' c' :: ρ)) (hd : plD 400 d = true) : callR n f (.ref j :: rest) μ = .ok d (μ.set j (potO a' b' c')) := by
  unfold callR
  rw [if_pos hn]
  show (match μ[j]? with
    | some (.lst os) => if (rest.all (okD fz) && os.all (okD fz)) = true then back1 j μ (f (.ref 0 :: rest) [.lst os]) else .bad
    | _ => .bad) = _
  rw [hj]
  show (if (rest.all (okD fz) && ([.int a, .int b, .int c] : List AD).all (okD fz)) = true then back1 j μ (f (.ref 0 :: rest) [potO a b c]) else .bad) = _
  rw [ho, if_pos (by rfl), h]
  show (match frzD true 1 (potO a' b' c' :: ρ) fz d with
    | some d' => (match mapO (frzD true 1 (potO a' b' c' :: ρ) fz) [.int a', .int b', .int c'] with
      | some os' => R.ok d' (μ.set j (.lst os'))
      | none => .bad)
    | none => .bad) = _
  rw [show frzD true 1 (potO a' b' c' :: ρ) fz d = some d from frz_pl 400 d hd]
  rfl
theorem ev_callR {n : Nat} {h : List AD → Store → R AD} {fa : SA} {s : Slots} {μ μ1 : Store} {ds : List AD} {x : R AD} (h1 : fa s μ = .ok ds μ1) (h2 : callR n h ds μ1 = x) : eCallR n h fa s μ = x := by unfold eCallR; rw [h1]; exact h2
theorem pot_up {n m : Nat} {a b c : Int} (p : Pot n a b c) (h : n ≤ m) : Pot m a b c := ⟨p.b, p.c0, by have := p.c1; omega⟩
theorem takeR {n j : Nat} {a b c u : Int} {fa : SA} {s : Slots} {μ : Store} (hA : fa s μ = .ok [.ref j, .int u] μ) (hj : μ[j]? = some (potO a b c)) (p : Pot n a b c) (hn : n < 900) (hu : 0 < u) (hu2 : u.natAbs < 2 ^ 100) : ∃ d a' c' : Int, 0 ≤ d ∧ d < u ∧ Pot (n + 1) a' b c' ∧ eCallR 2 f__law_take fa s μ = .ok (.int d) (μ.set j (potO a' b c')) := by
  obtain ⟨d, a', c', h0, h1, p', h⟩ := take_ok p hn hu hu2
  exact ⟨d, a', c', h0, h1, p', ev_callR hA (callR_pot hj rfl rfl h rfl)⟩
theorem strs_chars : ∀ cs : List Nat, strsA (chars cs) = some (cs.map fun c => lS [c])
  | [] => rfl
  | c :: r => by
    show (match strsA (chars r) with | some l => some (lS [c] :: l) | none => none) = _
    rw [strs_chars r]
    rfl
theorem cat_chars : ∀ cs : List Nat, catL ((cs.map fun c => lS [c]).map sL) = cs
  | [] => rfl
  | c :: r => by
    show [c] ++ catL ((r.map fun c => lS [c]).map sL) = c :: r
    rw [cat_chars r]
    rfl
theorem chars_pl (l : List Nat) : (chars l).all (plD 399) = true := List.all_eq_true.mpr fun x hx => by
  obtain ⟨c, _, rfl⟩ := List.mem_map.mp hx
  rfl
def wE : SE := eCallR 2 f__law_of (aCons (eVar 0) (aCons (eB (b1 gListF) (aCons (eVar 1) aNil)) aNil))
theorem word_laps {L : Str} (hL : Lt L) {b : Int} : ∀ (ds : List AD) (n : Nat) (a c : Int) (cs : List Nat), Pot n a b c → n + ds.length < 900 → (∀ x ∈ cs, memN x (sL L) = true) → cs.length + ds.length < 1000 →
    ∃ a' c' ds', Pot (n + ds.length) a' b c' ∧ (∀ x ∈ ds', memN x (sL L) = true) ∧ ds'.length = cs.length + ds.length ∧
      lcL (tgN 3) tYesF wE 1 [some (.ref 0), some (.str L), some (.int 9), none] ds [potO a b c, .lst (chars cs)] = .ok (.ref 1) [potO a' b c', .lst (chars ds')]
  | [], n, a, c, cs, p, _, hc, _ => ⟨a, c, cs, p, hc, by simp, rfl⟩
  | d :: r, n, a, c, cs, p, hn, hc, hl => by
    simp only [List.length_cons] at hn hl
    have h1 := hL.n1
    have hA : (aCons (eVar 0) (aCons (eB (b1 gListF) (aCons (eVar 1) aNil)) aNil)) [some (.ref 0), some (.str L), some (.int 9), some d] [potO a b c, .lst (chars cs)] = .ok [.ref 0, .lst (chars (sL L))] [potO a b c, .lst (chars cs)] := by
      refine ev_cons (e := eVar 0) (d := .ref 0) rfl (ev_cons (f := aNil) (ds := []) ((ev_b1 (u := gListF) (e := eVar 1) (x := .str L) rfl).trans ?_) rfl)
      show chk (decide ((sL L).length ≤ sizeLine)) _ = _
      rw [size_le (by omega)]
      rfl
    obtain ⟨e, a1, c1, he, p1, h⟩ := draw_ok (j := 0) hA rfl p (by omega) (by rw [chars, List.length_map]; exact hL.n0) (by rw [chars, List.length_map]; omega) (chars_pl _)
    obtain ⟨y, hy, rfl⟩ := List.mem_map.mp he
    have hy' : memN y (sL L) = true := by rw [← memN_iff, decide_eq_true_eq]; exact hy
    obtain ⟨a', c', ds', p', hm, hl', h'⟩ := word_laps hL r (n + 1) a1 c1 (cs ++ [y]) p1 (by omega) (fun x hx => by
      rcases List.mem_append.mp hx with z | z
      · exact hc x z
      · simp at z; rw [z]; exact hy') (by rw [List.length_append, List.length_singleton]; omega)
    refine ⟨a', c', ds', (show n + 1 + r.length = n + (d :: r).length by simp; omega) ▸ p', hm, by rw [hl', List.length_append, List.length_singleton, List.length_cons]; omega, ?_⟩
    have h2 : wE [some (.ref 0), some (.str L), some (.int 9), some d] [potO a b c, .lst (chars cs)] = .ok (.str (lS [y])) [potO a1 b c1, .lst (chars cs)] := h
    show lcStep (tgN 3) tYesF wE 1 [some (.ref 0), some (.str L), some (.int 9), none] d [potO a b c, .lst (chars cs)] (lcL (tgN 3) tYesF wE 1 [some (.ref 0), some (.str L), some (.int 9), none] r) = _
    have h3 : lcStep (tgN 3) tYesF wE 1 [some (.ref 0), some (.str L), some (.int 9), none] d [potO a b c, .lst (chars cs)] (lcL (tgN 3) tYesF wE 1 [some (.ref 0), some (.str L), some (.int 9), none] r) = (match wE [some (.ref 0), some (.str L), some (.int 9), some d] [potO a b c, .lst (chars cs)] with
      | .ok y μ2 => (match (μ2 : Store)[1]? with
        | some (AO.lst acc) => chk (decide (acc.length < sizeLine)) (lcL (tgN 3) tYesF wE 1 [some (.ref 0), some (.str L), some (.int 9), none] r (μ2.set 1 (.lst (acc ++ [y]))))
        | _ => .bad)
      | _ => .bad) := rfl
    rw [h3, h2]
    show chk (decide ((chars cs).length < sizeLine)) (lcL (tgN 3) tYesF wE 1 [some (.ref 0), some (.str L), some (.int 9), none] r [potO a1 b c1, .lst (chars cs ++ [.str (lS [y])])]) = _
    rw [size_big (by rw [chars, List.length_map]; omega)]
    have e5 : chars cs ++ [.str (lS [y])] = chars (cs ++ [y]) := by unfold chars; rw [List.map_append]; rfl
    rw [e5]
    exact h'
/-- a drawn word -/
theorem drawn_word {L : Str} (hL : Lt L) {n : Nat} {a b c : Int} (p : Pot n a b c) (hn : n + 10 < 900) : ∃ w a' c' ρ, Wd L w 9 ∧ Pot (n + 10) a' b c' ∧ f__law_drawn_word [.ref 0, .str L, .int 9] [potO a b c] = .ok (.str w) (potO a' b c' :: ρ) := by
  obtain ⟨S, hS⟩ : ∃ S : Slots, S = [some (.ref 0), some (.str L), some (.int 9), none] := ⟨_, rfl⟩
  obtain ⟨m, a1, c1, m0, m1, p1, ht⟩ := takeR (j := 0) (u := 10) (fa := aCons (eVar 0) (aCons (eOp aAdd (eVar 2) (eC (.int 1))) aNil)) (s := S) (μ := [potO a b c]) (by rw [hS]; rfl) rfl p (by omega) (by decide) (by decide)
  have rg : (iRng1F (eCallR 2 f__law_take (aCons (eVar 0) (aCons (eOp aAdd (eVar 2) (eC (.int 1))) aNil)))) S [potO a b c] = .ok (.fix (rngL 0 m.toNat)) [potO a1 b c1] := by
    unfold iRng1F
    rw [ht]
    show chk (decide (-(2 ^ 62) ≤ m) && decide (m < 2 ^ 62)) _ = _
    rw [decide_eq_true (show -(2 ^ 62) ≤ m by omega), decide_eq_true (show m < 2 ^ 62 by omega)]
    rfl
  have rl : (rngL 0 m.toNat).length = m.toNat := by
    have : ∀ (k : Nat) (lo : Int), (rngL lo k).length = k := fun k => by
      induction k with
      | zero => intro _; rfl
      | succ k ih => intro lo; show (rngL (lo + 1) k).length + 1 = k + 1; rw [ih]
    exact this _ _
  obtain ⟨a2, c2, ds', p2, hm, hl, h⟩ := word_laps hL (b := b) (rngL 0 m.toNat) (n + 1) a1 c1 [] p1 (by rw [rl]; omega) (by simp) (by rw [rl, List.length_nil]; omega)
  rw [rl] at p2 hl
  rw [List.length_nil] at hl
  refine ⟨lS ds', a2, c2, [.lst (chars ds')], ⟨by rw [sL_lS]; exact hm, by rw [sL_lS]; omega⟩, pot_up p2 (by omega), ?_⟩
  have lc : (eLc (iRng1F (eCallR 2 f__law_take (aCons (eVar 0) (aCons (eOp aAdd (eVar 2) (eC (.int 1))) aNil)))) [3] (tgN 3) tYesF wE) S [potO a b c] = .ok (.ref 1) [potO a2 b c2, .lst (chars ds')] := by
    unfold eLc
    rw [rg]
    show lcL (tgN 3) tYesF wE 1 (wipeS S [3]) (rngL 0 m.toNat) ([potO a1 b c1] ++ [.lst (chars [])]) = _
    rw [show wipeS S [3] = [some (.ref 0), some (.str L), some (.int 9), none] by rw [hS]; rfl]
    exact h
  have jn : (eJoin (eC (.str ("" : Str))) (eLc (iRng1F (eCallR 2 f__law_take (aCons (eVar 0) (aCons (eOp aAdd (eVar 2) (eC (.int 1))) aNil)))) [3] (tgN 3) tYesF wE)) S [potO a b c] = .ok (.str (lS ds')) [potO a2 b c2, .lst (chars ds')] := by
    show R.bind ((eLc (iRng1F (eCallR 2 f__law_take (aCons (eVar 0) (aCons (eOp aAdd (eVar 2) (eC (.int 1))) aNil)))) [3] (tgN 3) tYesF wE) S [potO a b c]) (fun y μ2 => aJoin (.str "") y μ2) = _
    rw [lc]
    show (match strsA (chars ds') with
      | some ys => chk (isNil (sL "") && decide ((catL (ys.map sL)).length ≤ 16777216)) (R.ok (AD.str (lS (catL (ys.map sL)))) [potO a2 b c2, .lst (chars ds')])
      | none => .bad) = _
    rw [strs_chars]
    show chk (isNil (sL "") && decide ((catL ((ds'.map fun c => lS [c]).map sL)).length ≤ 16777216)) (R.ok (AD.str (lS (catL ((ds'.map fun c => lS [c]).map sL)))) _) = _
    rw [cat_chars, decide_eq_true (by omega)]
    rfl
  have : b__law_drawn_word S [potO a b c] = .rt (.str (lS ds')) [potO a2 b c2, .lst (chars ds')] := ev_ret jn
  show R.ofS (b__law_drawn_word [some (.ref 0), some (.str L), some (.int 9), none] [potO a b c]) = _
  rw [← hS, this]
  rfl
theorem wordR {L : Str} (hL : Lt L) {n j : Nat} {a b c : Int} {fa : SA} {s : Slots} {μ : Store} (hA : fa s μ = .ok [.ref j, .str L, .int 9] μ) (hj : μ[j]? = some (potO a b c)) (p : Pot n a b c) (hn : n + 10 < 900) : ∃ w a' c', Wd L w 9 ∧ Pot (n + 10) a' b c' ∧ eCallR 3 f__law_drawn_word fa s μ = .ok (.str w) (μ.set j (potO a' b c')) := by
  obtain ⟨w, a', c', ρ, hw, p', h⟩ := drawn_word hL p hn
  exact ⟨w, a', c', hw, p', ev_callR hA (callR_pot hj rfl rfl h rfl)⟩
end P

set_option Elab.async false
set_option linter.all false
set_option maxRecDepth 100000
set_option maxHeartbeats 1000000
namespace P
open PySem PySem.Spec PyProof.Rows L2 SC G
/-! ### loops -/
theorem forL_inv {g : AD → SS} {body : SS} {I : Nat → Slots → Store → Prop} {N : Nat} : ∀ (ds : List AD) (n : Nat) (s : Slots) (μ : Store), n + ds.length ≤ N → (∀ d ∈ ds, ∀ n s μ, n < N → I n s μ → ∃ s1 μ1 s2 μ2, g d s μ = .nx s1 μ1 ∧ body s1 μ1 = .nx s2 μ2 ∧ I (n + 1) s2 μ2) → I n s μ → ∃ s' μ', forL g body ds s μ = .nx s' μ' ∧ I (n + ds.length) s' μ'
  | [], n, s, μ, _, _, h => ⟨s, μ, rfl, h⟩
  | d :: r, n, s, μ, hN, H, h => by
    rw [List.length_cons] at hN
    obtain ⟨s1, μ1, s2, μ2, h1, h2, h3⟩ := H d (by simp) n s μ (by omega) h
    obtain ⟨s', μ', h4, h5⟩ := forL_inv r (n + 1) s2 μ2 (by omega) (fun x hx => H x (by simp [hx])) h3
    refine ⟨s', μ', ?_, (show n + 1 + r.length = n + (d :: r).length by simp; omega) ▸ h5⟩
    unfold forL
    rw [h1]
    simp only [h2]
    exact h4
theorem forO_inv {g : AD → SS} {body : SS} {m : Nat} {ds : List AD} {I : Nat → Slots → Store → Prop} (hm : ∀ n s μ, I n s μ → μ[m]? = some (.lst ds)) (H : ∀ d ∈ ds, ∀ n s μ, I n s μ → ∃ s1 μ1 s2 μ2, g d s μ = .nx s1 μ1 ∧ body s1 μ1 = .nx s2 μ2 ∧ I (n + 1) s2 μ2) : ∀ (n i k : Nat) (s : Slots) (μ : Store), ds.length = i + n → n < k → I i s μ → ∃ s' μ', forO g body m k i s μ = .nx s' μ' ∧ I ds.length s' μ' := by
  intro n
  induction n with
  | zero =>
    intro i k s μ hl hk h
    cases k with
    | zero => omega
    | succ k =>
      refine ⟨s, μ, ?_, (show i = ds.length by omega) ▸ h⟩
      unfold forO Src.at
      simp only [hm i s μ h]
      rw [List.getElem?_eq_none_iff.mpr (by omega)]
  | succ n ih =>
    intro i k s μ hl hk h
    cases k with
    | zero => omega
    | succ k =>
      have hi : i < ds.length := by omega
      obtain ⟨s1, μ1, s2, μ2, h1, h2, h3⟩ := H ds[i] (List.getElem_mem _) i s μ h
      obtain ⟨s', μ', h4, h5⟩ := ih (i + 1) k s2 μ2 (by omega) (by omega) h3
      refine ⟨s', μ', ?_, h5⟩
      unfold forO Src.at
      simp only [hm i s μ h]
      rw [List.getElem?_eq_getElem hi]
      simp only [h1, h2]
      exact h4
/-- a for over a list of one's own -/
theorem ev_forO {fi : SI} {g : AD → SS} {body : SS} {s : Slots} {μ μ1 : Store} {m : Nat} {ds : List AD} {I : Nat → Slots → Store → Prop} (hi : fi s μ = .ok (.own m) μ1) (hl : ds.length < 1000000) (hm : ∀ n s μ, I n s μ → μ[m]? = some (.lst ds)) (H : ∀ d ∈ ds, ∀ n s μ, I n s μ → ∃ s1 μ1 s2 μ2, g d s μ = .nx s1 μ1 ∧ body s1 μ1 = .nx s2 μ2 ∧ I (n + 1) s2 μ2) (h0 : I 0 s μ1) : ∃ s' μ', sFor fi g body s μ = .nx s' μ' ∧ I ds.length s' μ' := by
  obtain ⟨s', μ', h1, h2⟩ := forO_inv hm H ds.length 0 fuel s μ1 (by omega) (by show ds.length < 1000000000; omega) h0
  refine ⟨s', μ', ?_, h2⟩
  unfold sFor
  rw [hi]
  exact h1
theorem ev_forL {fi : SI} {g : AD → SS} {body : SS} {s : Slots} {μ μ1 : Store} {ds : List AD} {I : Nat → Slots → Store → Prop} (hi : fi s μ = .ok (.fix ds) μ1) (H : ∀ d ∈ ds, ∀ n s μ, n < ds.length → I n s μ → ∃ s1 μ1 s2 μ2, g d s μ = .nx s1 μ1 ∧ body s1 μ1 = .nx s2 μ2 ∧ I (n + 1) s2 μ2) (h0 : I 0 s μ1) : ∃ s' μ', sFor fi g body s μ = .nx s' μ' ∧ I ds.length s' μ' := by
  obtain ⟨s', μ', h1, h2⟩ := forL_inv (N := ds.length) ds 0 s μ1 (by omega) H h0
  refine ⟨s', μ', ?_, (show 0 + ds.length = ds.length by omega) ▸ h2⟩
  unfold sFor
  rw [hi]
  exact h1
/-! ### words made of words -/
def EW (L : Str) (n : Nat) (e : SE) (s : Slots) (μ : Store) : Prop := ∃ z, e s μ = .ok (.str z) μ ∧ Wd L z n
section
variable {L z : Str} {n m : Nat} {e e1 e2 : SE} {s : Slots} {μ : Store} {i : Nat}
theorem ew_var (h : s[i]? = some (some (.str z))) (w : Wd L z n) : EW L n (eVar i) s μ := ⟨z, by unfold eVar; rw [h], w⟩
theorem ew_rev (h : EW L n e s μ) (hn : n < 60) : EW L n (eUn uRev e) s μ := by
  obtain ⟨z, h1, w⟩ := h
  have hl := w.l
  refine ⟨lS (sL z).reverse, (ev_un h1).trans ?_, ⟨fun c hc => ?_, ?_⟩⟩
  · show chk (decide ((sL z).length ≤ sizeLine)) _ = _
    rw [size_le (by omega)]
    rfl
  · rw [sL_lS] at hc; exact w.m c (List.mem_reverse.mp hc)
  · rw [sL_lS, List.length_reverse]; exact hl
theorem ew_cut {fl fh : Slots → Store → R (Option Int)} {lo hi : Option Int} (h : EW L n e s μ) (hl : fl s μ = .ok lo μ) (hh : fh s μ = .ok hi μ) (hn : n < 60) : EW L n (eSl e fl fh) s μ := by
  obtain ⟨z, h1, w⟩ := h
  have hz := w.l
  refine ⟨lS (cutA (sL z) lo hi), ?_, ⟨fun c hc => ?_, ?_⟩⟩
  · unfold eSl
    rw [h1]
    show R.bind (fl s μ) _ = _
    rw [hl]
    show R.bind (fh s μ) _ = _
    rw [hh]
    show chk (decide ((sL z).length ≤ sizeLine)) _ = _
    rw [size_le (by omega)]
    rfl
  · rw [sL_lS] at hc; exact w.m c (cut_mem hc)
  · rw [sL_lS]; exact Nat.le_trans (cut_len _ _ _) hz
theorem ew_cat (h1 : EW L m e1 s μ) (h2 : EW L n e2 s μ) (hn : m + n < 60) : EW L (m + n) (eOp aAdd e1 e2) s μ := by
  obtain ⟨x, a1, w1⟩ := h1
  obtain ⟨y, a2, w2⟩ := h2
  have l1 := w1.l
  have l2 := w2.l
  refine ⟨lS (sL x ++ sL y), (ev_op a1 a2).trans ?_, ⟨fun c hc => ?_, ?_⟩⟩
  · show chk (decide ((sL x).length + (sL y).length ≤ sizeLine)) _ = _
    rw [size_le (by omega)]
    rfl
  · rw [sL_lS] at hc
    rcases List.mem_append.mp hc with q | q
    · exact w1.m c q
    · exact w2.m c q
  · rw [sL_lS, List.length_append]; omega
theorem Wd.up (w : Wd L z n) (h : n ≤ m) : Wd L z m := ⟨w.m, Nat.le_trans w.l h⟩
end
theorem ev_lst {fa : SA} {s : Slots} {μ μ1 : Store} {ds : List AD} (h : fa s μ = .ok ds μ1) (hl : ds.length < 1000000) : eLst fa s μ = .ok (.lst ds) μ1 := by
  unfold eLst
  rw [h]
  show chk (decide (ds.length ≤ sizeLine)) _ = _
  rw [size_le hl]
  rfl
theorem rep_false {fa fb : SE} {s : Slots} {μ : Store} {d : AD} (h1 : fa s μ = .ok d μ) (h2 : fb s μ = .ok d μ) (hd : Lk d) : eRep false fa fb s μ = .ok (.bl false) μ := by
  unfold eRep
  rw [h1]
  show chk (showA μ d) (R.bind (fb s μ) _) = _
  rw [hd.show, h2]
  show chk (showA μ d && sameA μ μ 60 d d) _ = _
  rw [hd.show, hd.same]
  rfl
/-! ### the laps -/
def bodyO : SS := (sSeq (sSet 9 (eOp aEq (eCallP 3 f__law_look (aCons (eVar 3) (aCons (eVar 6) (aCons (eVar 7) aNil)))) (eCallP 3 f__law_look (aCons (eVar 8) (aCons (eVar 6) (aCons (eVar 7) aNil)))))) (sIf (tNotF (tV (eCallP 2 f__law_is_bool (aCons (eCallK 5 3 2 f_same_look [1, 0] (aCons (eVar 1) (aCons (eVar 3) (aCons (eVar 8) aNil))) (aCons (eVar 7) (aCons (eVar 6) aNil))) (aCons (eVar 9) aNil))))) (sRet (eC (.bl false))) sPass))
def bodyK : SS := (sSeq (sSet 7 (eOp aAdd (eC (.int 1)) (eCallR 2 f__law_take (aCons (eVar 0) (aCons (eC (.int 6)) aNil))))) (sSeq (sIf (tV (eRep false (eCallK 4 2 2 f_told_look [1, 0] (aCons (eVar 1) (aCons (eVar 3) aNil)) (aCons (eVar 7) (aCons (eVar 6) aNil))) (eCallP 3 f__law_look (aCons (eVar 3) (aCons (eVar 6) (aCons (eVar 7) aNil)))))) (sRet (eC (.bl false))) sPass) (sFor (iSeq (eOp aAdd (eVar 5) (eLst (aCons (eCallR 3 f__law_drawn_word (aCons (eVar 0) (aCons (eVar 1) (aCons (eC (.int 9)) aNil)))) aNil)))) (gN 8) bodyO)))
def bodyL : SS := (sSeq (sSet 3 (eCallR 3 f__law_drawn_word (aCons (eVar 0) (aCons (eVar 1) (aCons (eC (.int 9)) aNil))))) (sSeq (sSet 4 (eCallR 2 f__law_take (aCons (eVar 0) (aCons (eOp aAdd (eB (b1 gLen) (aCons (eVar 3) aNil)) (eC (.int 1))) aNil)))) (sSeq (sSet 5 (eLst (aCons (eUn uRev (eVar 3)) (aCons (eOp aAdd (eSl (eVar 3) oNo (oSo (eVar 4))) (eUn uRev (eSl (eVar 3) (oSo (eVar 4)) oNo))) (aCons (eOp aAdd (eVar 3) (eSl (eVar 3) oNo (oSo (eVar 4)))) (aCons (eOp aAdd (eSl (eVar 3) oNo (oSo (eVar 4))) (eVar 3)) (aCons (eOp aAdd (eSl (eVar 3) (oSo (eVar 4)) oNo) (eSl (eVar 3) oNo (oSo (eVar 4)))) aNil))))))) (sFor (iRng2F (eC (.int 1)) (eC (.int 7))) (gN 6) bodyK))))
def SR10 (L : Str) (x2 : Option AD) (w : Str) (at_ : Int) (near : List AD) (k t : Int) (x8 x9 : Option AD) : Slots := [some (.ref 0), some (.str L), x2, some (.str w), some (.int at_), some (.lst near), some (.int k), some (.int t), x8, x9]
section
variable {L w z : Str} {k t at_ : Int} {x2 x7 x8 x9 : Option AD} {near : List AD} {μ : Store} {b : Int}
theorem turnO (hL : Lt L) (hw : Wd L w 9) (hz : Wd L z 18) (k1 : 1 ≤ k) (k2 : k ≤ 6) (t1 : 1 ≤ t) (t2 : t ≤ 6) : ∃ y, bodyO (SR10 L x2 w at_ near k t (some (.str z)) x9) μ = .nx (SR10 L x2 w at_ near k t (some (.str z)) y) μ := by
  obtain ⟨S, hS⟩ : ∃ S : Slots, S = SR10 L x2 w at_ near k t (some (.str z)) x9 := ⟨_, rfl⟩
  have a1 : (eCallP 3 f__law_look (aCons (eVar 3) (aCons (eVar 6) (aCons (eVar 7) aNil)))) S μ = .ok (lookD w k t) μ := ev_callP (by rw [hS]; rfl) (lookL_ok (hw.ok hL (by decide)) k1 k2 t1 t2)
  have a2 : (eCallP 3 f__law_look (aCons (eVar 8) (aCons (eVar 6) (aCons (eVar 7) aNil)))) S μ = .ok (lookD z k t) μ := ev_callP (by rw [hS]; rfl) (lookL_ok (hz.ok hL (by decide)) k1 k2 t1 t2)
  have a3 := (ev_op (o := aEq) a1 a2).trans (eq_ok (look_lk (hw.ok hL (by decide)) k1 t1 t2) (look_lk (hz.ok hL (by decide)) k1 t1 t2))
  obtain ⟨v, hv⟩ : ∃ v, v = eqA [] 60 (lookD w k t) (lookD z k t) := ⟨_, rfl⟩
  rw [← hv] at a3
  obtain ⟨S1, hS1⟩ : ∃ S1 : Slots, S1 = SR10 L x2 w at_ near k t (some (.str z)) (some (.bl v)) := ⟨_, rfl⟩
  have a4 : (eCallK 5 3 2 f_same_look [1, 0] (aCons (eVar 1) (aCons (eVar 3) (aCons (eVar 8) aNil))) (aCons (eVar 7) (aCons (eVar 6) aNil))) S1 μ = .ok (.bl v) μ := by
    rw [hv]
    exact ev_callK (ds := [.str L, .str w, .str z]) (zs := [.int t, .int k]) (by rw [hS1]; rfl) (by rw [hS1]; rfl) rfl rfl (same_ok hL hw (by decide) hz (by decide) k1 k2 t1 t2)
  have a5 : (eCallP 2 f__law_is_bool (aCons (eCallK 5 3 2 f_same_look [1, 0] (aCons (eVar 1) (aCons (eVar 3) (aCons (eVar 8) aNil))) (aCons (eVar 7) (aCons (eVar 6) aNil))) (aCons (eVar 9) aNil))) S1 μ = .ok (.bl true) μ :=
    ev_callP (ev_cons a4 (ev_cons (e := eVar 9) (d := .bl v) (f := aNil) (ds := []) (by rw [hS1]; rfl) rfl)) (bool_ok v)
  refine ⟨some (.bl v), ?_⟩
  rw [← hS, ← hS1]
  refine (ev_seq ((ev_set a3).trans (by rw [hS, hS1]; rfl : _ = SR.nx S1 μ))).trans ?_
  exact (ev_if (ev_not (ev_tv a5))).trans rfl
/-- a turn of k -/
theorem turnK (hL : Lt L) (hw : Wd L w 9) {ws : List Str} (hs : ∀ z ∈ ws, Wd L z 18) (hn : ws.length = 5) (k1 : 1 ≤ k) (k2 : k ≤ 6) {n : Nat} {a c : Int} {ρ : Store} (p : Pot n a b c) (hb : n + 11 < 900) :
    ∃ a' c' ρ' y7 y8 y9, Pot (n + 11) a' b c' ∧ bodyK [some (.ref 0), some (.str L), x2, some (.str w), some (.int at_), some (.lst (ws.map AD.str)), some (.int k), x7, x8, x9] (potO a b c :: ρ) = .nx [some (.ref 0), some (.str L), x2, some (.str w), some (.int at_), some (.lst (ws.map AD.str)), some (.int k), y7, y8, y9] (potO a' b c' :: ρ') := by
  obtain ⟨near, hnear⟩ : ∃ near, near = ws.map AD.str := ⟨_, rfl⟩
  rw [← hnear]
  obtain ⟨S, hS⟩ : ∃ S : Slots, S = [some (.ref 0), some (.str L), x2, some (.str w), some (.int at_), some (.lst near), some (.int k), x7, x8, x9] := ⟨_, rfl⟩
  obtain ⟨d, a1, c1, d0, d1, p1, ht⟩ := takeR (j := 0) (u := 6) (fa := aCons (eVar 0) (aCons (eC (.int 6)) aNil)) (s := S) (μ := potO a b c :: ρ) (by rw [hS]; rfl) rfl p (by omega) (by decide) (by decide)
  obtain ⟨t, ht'⟩ : ∃ t, t = 1 + d := ⟨_, rfl⟩
  have t1 : 1 ≤ t := by omega
  have t2 : t ≤ 6 := by omega
  have s7 : (sSet 7 (eOp aAdd (eC (.int 1)) (eCallR 2 f__law_take (aCons (eVar 0) (aCons (eC (.int 6)) aNil))))) S (potO a b c :: ρ) = .nx (SR10 L x2 w at_ near k t x8 x9) (potO a1 b c1 :: ρ) := by
    refine (ev_set (d := .int t) (μ1 := potO a1 b c1 :: ρ) ((ev_op (o := aAdd) (e1 := eC (.int 1)) (x := .int 1) rfl ht).trans ?_)).trans ?_
    · rw [ht']; rfl
    · rw [hS]; rfl
  obtain ⟨S1, hS1⟩ : ∃ S1 : Slots, S1 = SR10 L x2 w at_ near k t x8 x9 := ⟨_, rfl⟩
  obtain ⟨μ1, hμ1⟩ : ∃ μ1 : Store, μ1 = potO a1 b c1 :: ρ := ⟨_, rfl⟩
  rw [← hS1, ← hμ1] at s7
  have b1' : (eCallK 4 2 2 f_told_look [1, 0] (aCons (eVar 1) (aCons (eVar 3) aNil)) (aCons (eVar 7) (aCons (eVar 6) aNil))) S1 μ1 = .ok (lookD w k t) μ1 := ev_callK (ds := [.str L, .str w]) (zs := [.int t, .int k]) (by rw [hS1]; rfl) (by rw [hS1]; rfl) rfl rfl (told_ok hL hw (by decide) k1 k2 t1 t2)
  have b2' : (eCallP 3 f__law_look (aCons (eVar 3) (aCons (eVar 6) (aCons (eVar 7) aNil)))) S1 μ1 = .ok (lookD w k t) μ1 := ev_callP (by rw [hS1]; rfl) (lookL_ok (hw.ok hL (by decide)) k1 k2 t1 t2)
  have b3 := rep_false b1' b2' (look_lk (hw.ok hL (by decide)) k1 t1 t2)
  obtain ⟨z, a2, c2, hz, p2, hd⟩ := wordR hL (j := 0) (fa := (aCons (eVar 0) (aCons (eVar 1) (aCons (eC (.int 9)) aNil)))) (s := S1) (μ := μ1) (a := a1) (b := b) (c := c1) (by rw [hS1]; rfl) (by rw [hμ1]; rfl) p1 (by omega)
  obtain ⟨μ2, hμ2⟩ : ∃ μ2 : Store, μ2 = potO a2 b c2 :: ρ ++ [.lst (near ++ [.str z])] := ⟨_, rfl⟩
  have hm : μ2[(ρ.length + 1)]? = some (.lst (near ++ [.str z])) := by
    rw [hμ2, show ρ.length + 1 = (potO a2 b c2 :: ρ).length from rfl, List.getElem?_append_right (Nat.le_refl _), Nat.sub_self]
    rfl
  have it : (iSeq (eOp aAdd (eVar 5) (eLst (aCons (eCallR 3 f__law_drawn_word (aCons (eVar 0) (aCons (eVar 1) (aCons (eC (.int 9)) aNil)))) aNil)))) S1 μ1 = .ok (.own (ρ.length + 1)) μ2 := by
    have e1 : (eOp aAdd (eVar 5) (eLst (aCons (eCallR 3 f__law_drawn_word (aCons (eVar 0) (aCons (eVar 1) (aCons (eC (.int 9)) aNil)))) aNil))) S1 μ1 = .ok (.ref (ρ.length + 1)) μ2 := by
      refine (ev_op (e1 := eVar 5) (x := .lst near) (μ1 := μ1) (by rw [hS1]; rfl) (ev_lst (ev_cons hd (f := aNil) (ds := []) rfl) (show ([AD.str z] : List AD).length < 1000000 by rw [List.length_singleton]; decide))).trans ?_
      rw [hμ1, hμ2]
      show chk (decide (near.length + 1 ≤ sizeLine)) (R.ok (AD.ref (potO a2 b c2 :: ρ).length) (potO a2 b c2 :: ρ ++ [.lst (near ++ [.str z])])) = _
      rw [size_le (by rw [hnear, List.length_map, hn]; decide)]
      rfl
    unfold iSeq
    rw [e1]
    show (match srcOf μ2 (.ref (ρ.length + 1)) with | some r => R.ok r μ2 | none => .bad) = _
    unfold srcOf
    simp only [hm]
  obtain ⟨s', μ', hf, x', y', hs', hμ'⟩ := ev_forO (I := fun _ s μ => ∃ x y, s = SR10 L x2 w at_ near k t x y ∧ μ = μ2) (g := gN 8) (body := bodyO) (ds := near ++ [.str z]) it (by rw [List.length_append, hnear, List.length_map, hn]; exact Nat.lt_of_le_of_lt (Nat.le_refl 6) (by decide)) (fun n s μ h => by
    obtain ⟨x, y, _, rfl⟩ := h
    exact hm) (fun e he n s μ h => by
    obtain ⟨x, y, rfl, rfl⟩ := h
    obtain ⟨v, rfl, hv⟩ : ∃ v, e = .str v ∧ Wd L v 18 := by
      rcases List.mem_append.mp he with q | q
      · rw [hnear] at q
        obtain ⟨v, hv, rfl⟩ := List.mem_map.mp q
        exact ⟨v, rfl, hs v hv⟩
      · exact ⟨z, by simpa using q, hz.up (by decide)⟩
    obtain ⟨y2, h2⟩ := turnO (x2 := x2) (at_ := at_) (near := near) (x9 := y) (μ := μ) hL hw hv k1 k2 t1 t2
    exact ⟨SR10 L x2 w at_ near k t (some (.str v)) y, μ, _, _, rfl, h2, _, _, rfl, rfl⟩) ⟨x8, x9, hS1, rfl⟩
  refine ⟨a2, c2, ρ ++ [.lst (near ++ [.str z])], some (.int t), x', y', pot_up p2 (by omega), ?_⟩
  rw [← hS]
  refine (ev_seq s7).trans ((ev_seq ((ev_if (ev_tv b3)).trans rfl)).trans (hf.trans ?_))
  rw [hs', hμ', hμ2]
  rfl
/-- a lap -/
theorem turnL (hL : Lt L) {x3 x4 x5 x6 : Option AD} {n : Nat} {a c : Int} {ρ : Store} (p : Pot n a b c) (hb : n + 77 < 900) :
    ∃ a' c' ρ' y3 y4 y5 y6 y7 y8 y9, Pot (n + 77) a' b c' ∧ bodyL [some (.ref 0), some (.str L), x2, x3, x4, x5, x6, x7, x8, x9] (potO a b c :: ρ) = .nx [some (.ref 0), some (.str L), x2, y3, y4, y5, y6, y7, y8, y9] (potO a' b c' :: ρ') := by
  obtain ⟨S, hS⟩ : ∃ S : Slots, S = [some (.ref 0), some (.str L), x2, x3, x4, x5, x6, x7, x8, x9] := ⟨_, rfl⟩
  obtain ⟨μ, hμ⟩ : ∃ μ : Store, μ = potO a b c :: ρ := ⟨_, rfl⟩
  obtain ⟨w, a1, c1, hw, p1, hd⟩ := wordR hL (j := 0) (fa := (aCons (eVar 0) (aCons (eVar 1) (aCons (eC (.int 9)) aNil)))) (s := S) (μ := μ) (a := a) (b := b) (c := c) (by rw [hS]; rfl) (by rw [hμ]; rfl) p (by omega)
  have hwl := hw.l
  obtain ⟨S1, hS1⟩ : ∃ S1 : Slots, S1 = [some (.ref 0), some (.str L), x2, some (.str w), x4, x5, x6, x7, x8, x9] := ⟨_, rfl⟩
  obtain ⟨μ1, hμ1⟩ : ∃ μ1 : Store, μ1 = potO a1 b c1 :: ρ := ⟨_, rfl⟩
  have s3 : (sSet 3 (eCallR 3 f__law_drawn_word (aCons (eVar 0) (aCons (eVar 1) (aCons (eC (.int 9)) aNil))))) S μ = .nx S1 μ1 := (ev_set hd).trans (by rw [hS, hS1, hμ, hμ1]; rfl)
  have ln : (eB (b1 gLen) (aCons (eVar 3) aNil)) S1 μ1 = .ok (.int ((sL w).length : Int)) μ1 := by
    have : (eB (b1 gLen) (aCons (eVar 3) aNil)) S1 μ1 = chk (decide ((sL w).length ≤ sizeLine)) (.ok (.int ((sL w).length : Int)) μ1) := by rw [hS1]; rfl
    rw [this, size_le (by omega)]
    rfl
  have ln1 : (eOp aAdd (eB (b1 gLen) (aCons (eVar 3) aNil)) (eC (.int 1))) S1 μ1 = .ok (.int ((sL w).length + 1)) μ1 := (ev_op ln (e2 := eC (.int 1)) (y := .int 1) rfl).trans rfl
  obtain ⟨at_, a2, c2, _, _, p2, hat⟩ := takeR (j := 0) (u := (sL w).length + 1) (fa := (aCons (eVar 0) (aCons (eOp aAdd (eB (b1 gLen) (aCons (eVar 3) aNil)) (eC (.int 1))) aNil))) (s := S1) (μ := μ1) (a := a1) (b := b) (c := c1) (ev_cons (e := eVar 0) (d := .ref 0) (by rw [hS1]; rfl) (ev_cons ln1 (f := aNil) (ds := []) rfl)) (by rw [hμ1]; rfl) p1 (by omega) (by omega) (by
    have : (((sL w).length : Int) + 1).natAbs ≤ 10 := by omega
    exact Nat.lt_of_le_of_lt this (by decide))
  obtain ⟨S2, hS2⟩ : ∃ S2 : Slots, S2 = [some (.ref 0), some (.str L), x2, some (.str w), some (.int at_), x5, x6, x7, x8, x9] := ⟨_, rfl⟩
  obtain ⟨μ2, hμ2⟩ : ∃ μ2 : Store, μ2 = potO a2 b c2 :: ρ := ⟨_, rfl⟩
  have s4 : (sSet 4 (eCallR 2 f__law_take (aCons (eVar 0) (aCons (eOp aAdd (eB (b1 gLen) (aCons (eVar 3) aNil)) (eC (.int 1))) aNil)))) S1 μ1 = .nx S2 μ2 := (ev_set hat).trans (by rw [hS1, hS2, hμ1, hμ2]; rfl)
  have v3 : EW L 9 (eVar 3) S2 μ2 := ew_var (by rw [hS2]; rfl) hw
  have lo : (oSo (eVar 4)) S2 μ2 = .ok (some at_) μ2 := by rw [hS2]; rfl
  have no : oNo S2 μ2 = .ok none μ2 := rfl
  obtain ⟨z1, e1, w1⟩ := ew_rev v3 (by decide)
  obtain ⟨z2, e2, w2⟩ := ew_cat (ew_cut v3 no lo (by decide)) (ew_rev (ew_cut v3 lo no (by decide)) (by decide)) (by decide)
  obtain ⟨z3, e3, w3⟩ := ew_cat v3 (ew_cut v3 no lo (by decide)) (by decide)
  obtain ⟨z4, e4, w4⟩ := ew_cat (ew_cut v3 no lo (by decide)) v3 (by decide)
  obtain ⟨z5, e5, w5⟩ := ew_cat (ew_cut v3 lo no (by decide)) (ew_cut v3 no lo (by decide)) (by decide)
  obtain ⟨ws, hws⟩ : ∃ ws : List Str, ws = [z1, z2, z3, z4, z5] := ⟨_, rfl⟩
  have hs : ∀ z ∈ ws, Wd L z 18 := by
    rw [hws]
    intro z hz
    simp only [List.mem_cons, List.not_mem_nil, or_false] at hz
    rcases hz with rfl | rfl | rfl | rfl | rfl
    · exact w1.up (by decide)
    · exact w2
    · exact w3
    · exact w4
    · exact w5
  obtain ⟨S3, hS3⟩ : ∃ S3 : Slots, S3 = [some (.ref 0), some (.str L), x2, some (.str w), some (.int at_), some (.lst (ws.map AD.str)), x6, x7, x8, x9] := ⟨_, rfl⟩
  have s5 := (ev_set (i := 5) (ev_lst (ev_cons e1 (ev_cons e2 (ev_cons e3 (ev_cons e4 (ev_cons e5 (f := aNil) (ds := []) rfl))))) (show ([AD.str z1, .str z2, .str z3, .str z4, .str z5] : List AD).length < 1000000 from Nat.lt_of_le_of_lt (Nat.le_refl 5) (by decide)))).trans (by rw [hS2, hS3, hws]; rfl : _ = SR.nx S3 μ2)
  have rg : (iRng2F (eC (.int 1)) (eC (.int 7))) S3 μ2 = .ok (.fix (rngL 1 6)) μ2 := by kernel_rfl
  have mem6 : ∀ e ∈ rngL 1 6, ∃ k : Int, e = .int k ∧ 1 ≤ k ∧ k ≤ 6 := fun e he => by
    have : e ∈ ([.int 1, .int 2, .int 3, .int 4, .int 5, .int 6] : List AD) := he
    simp only [List.mem_cons, List.not_mem_nil, or_false] at this
    rcases this with rfl | rfl | rfl | rfl | rfl | rfl
    · exact ⟨1, rfl, by decide, by decide⟩
    · exact ⟨2, rfl, by decide, by decide⟩
    · exact ⟨3, rfl, by decide, by decide⟩
    · exact ⟨4, rfl, by decide, by decide⟩
    · exact ⟨5, rfl, by decide, by decide⟩
    · exact ⟨6, rfl, by decide, by decide⟩
  obtain ⟨s', μ', hf, x6', x7', x8', x9', a', c', ρ', hs', hμ', p'⟩ := ev_forL (I := fun i s μ => ∃ x6 x7 x8 x9 a c ρ, s = [some (.ref 0), some (.str L), x2, some (.str w), some (.int at_), some (.lst (ws.map AD.str)), x6, x7, x8, x9] ∧ μ = potO a b c :: ρ ∧ Pot (n + 11 + 11 * i) a b c) (g := gN 6) (body := bodyK) rg (fun e he i s μ hi h => by
    obtain ⟨k, rfl, k1, k2⟩ := mem6 e he
    obtain ⟨x6, x7, x8, x9, a, c, ρ, rfl, rfl, p⟩ := h
    have hi : i < 6 := hi
    obtain ⟨a', c', ρ', y7, y8, y9, p', h'⟩ := turnK (x2 := x2) (at_ := at_) (x7 := x7) (x8 := x8) (x9 := x9) (ρ := ρ) hL hw hs (by rw [hws]; rfl) k1 k2 p (by omega)
    exact ⟨_, _, _, _, rfl, h', some (.int k), y7, y8, y9, a', c', ρ', rfl, rfl, pot_up p' (by omega)⟩) ⟨x6, x7, x8, x9, a2, c2, ρ, hS3, hμ2, pot_up p2 (by omega)⟩
  refine ⟨a', c', ρ', some (.str w), some (.int at_), some (.lst (ws.map AD.str)), x6', x7', x8', x9', pot_up p' (by show n + 11 + 11 * 6 ≤ n + 77; omega), ?_⟩
  rw [← hS, ← hμ]
  refine (ev_seq s3).trans ((ev_seq s4).trans ((ev_seq s5).trans (hf.trans ?_)))
  rw [hs', hμ']
end
end P

set_option Elab.async false
set_option linter.all false
set_option maxRecDepth 100000
set_option maxHeartbeats 1000000
namespace P
open PySem PySem.Spec PyProof.Rows L2 SC G
/-! ### machines -/
structure StL (n many : Nat) (d : AD) : Prop where
  ex : ∃ (b : Bool) (gone : List Int), d = .tup [.bl b, .tup (gone.map AD.int)] ∧ gone.length = n ∧ ∀ g ∈ gone, 0 ≤ g ∧ g < many
structure Mc (L : Str) (m : AD) : Prop where
  ex : ∃ states : List AD, m = .tup [.str L, .tup states] ∧ 1 ≤ states.length ∧ states.length ≤ 200 ∧ ∀ d ∈ states, StL (sL L).length states.length d
theorem StL.pl' (k : Nat) {n many : Nat} {d : AD} (h : StL n many d) : plD (k + 3) d = true := by
  obtain ⟨b, gone, rfl, _, _⟩ := h.ex
  show (true && (((gone.map AD.int).all (plD (k + 1))) && true)) = true
  have : (gone.map AD.int).all (plD (k + 1)) = true := List.all_eq_true.mpr fun x hx => by
    obtain ⟨g, _, rfl⟩ := List.mem_map.mp hx
    rfl
  rw [this]
  rfl
theorem Mc.pl' (k : Nat) {L : Str} {m : AD} (h : Mc L m) : plD (k + 5) m = true := by
  obtain ⟨states, rfl, _, _, hs⟩ := h.ex
  show (true && ((states.all (plD (k + 3))) && true)) = true
  rw [List.all_eq_true.mpr fun x hx => (hs x hx).pl' k]
  rfl
section
variable {s s1 : Slots} {μ μ1 μ2 : Store} {t u : ST} {b : Bool} {e : SE} {c : Str} {d : AD} {f g : SS} {o o' : AD → AD → Store → R AD} {e1 e2 e3 : SE} {x y z : AD} {μ3 μ4 : Store}
theorem ev_or (h1 : t s μ = .ok false μ1) : tOrF t u s μ = u s μ1 := by unfold tOrF; rw [h1]; rfl
theorem ev_and_t (h1 : t s μ = .ok true μ1) : tAndF t u s μ = u s μ1 := by unfold tAndF; rw [h1]; rfl
theorem ev_drop_exc (h1 : e s μ = .exc c d μ1) : sDrop e s μ = .exc c d s μ1 := by unfold sDrop; rw [h1]; rfl
theorem ev_seq_exc (h1 : f s μ = .exc c d s1 μ1) : sSeq f g s μ = .exc c d s1 μ1 := by unfold sSeq; rw [h1]
theorem ev_chain (h1 : e1 s μ = .ok x μ1) (h2 : e2 s μ1 = .ok y μ2) (h3 : o x y μ2 = .ok (.bl true) μ3) (h4 : e3 s μ3 = .ok z μ4) : eChain o o' e1 e2 e3 s μ = o' y z μ4 := by
  unfold eChain
  rw [h1]
  show R.bind (e2 s μ1) _ = _
  rw [h2]
  show R.bind (o x y μ2) _ = _
  rw [h3]
  show R.bind (e3 s μ3) _ = _
  rw [h4]
  rfl
end
theorem le_ok {i j : Int} {μ : Store} (h : i ≤ j) : aLe (.int i) (.int j) μ = .ok (.bl true) μ := by
  show R.ok (AD.bl (decide (i ≤ j))) μ = _
  rw [decide_eq_true h]
theorem ne_ok {i j : Int} {μ : Store} (h : i = j) : aNe (.int i) (.int j) μ = .ok (.bl false) μ := by
  have e : ∀ k, eqA μ (k + 1) (.int i) (.int j) = (i == j) := fun k => rfl
  show chk (okA μ 60 (.int i) && okA μ 60 (.int j)) (R.ok (AD.bl (!eqA μ 60 (.int i) (.int j))) μ) = _
  rw [e 59, h]
  show R.ok (AD.bl (!(j == j))) μ = _
  rw [beq_self_eq_true]
  rfl
theorem len_tup {e : SE} {s : Slots} {μ μ1 : Store} {ds : List AD} (h : e s μ = .ok (.tup ds) μ1) : (eB (b1 gLen) (aCons e aNil)) s μ = .ok (.int (ds.length : Int)) μ1 := by
  refine (ev_b1 (u := gLen) h).trans ?_
  rfl
theorem len_str {e : SE} {s : Slots} {μ μ1 : Store} {z : Str} (h : e s μ = .ok (.str z) μ1) (hl : (sL z).length < 1000000) : (eB (b1 gLen) (aCons e aNil)) s μ = .ok (.int ((sL z).length : Int)) μ1 := by
  refine (ev_b1 (u := gLen) h).trans ?_
  show chk (decide ((sL z).length ≤ sizeLine)) _ = _
  rw [size_le hl]
  rfl
theorem is_int_ok {g lo hi : Int} {μ : Store} (h0 : lo ≤ g) (h1 : g ≤ hi) : callP 3 f_is_int [.int g, .int lo, .int hi] μ = .ok (.bl true) μ := by
  refine callP_pl rfl rfl (?_ : f_is_int [.int g, .int lo, .int hi] [] = .ok (.bl true) []) rfl
  have c : (eChain aLe aLe (eVar 1) (eVar 0) (eVar 2)) [some (.int g), some (.int lo), some (.int hi)] [] = .ok (.bl true) [] := (ev_chain (x := .int lo) (y := .int g) (z := .int hi) (μ1 := []) (μ2 := []) (μ3 := []) (μ4 := []) rfl rfl (le_ok h0) rfl).trans (le_ok h1)
  have : b_is_int [some (.int g), some (.int lo), some (.int hi)] [] = .rt (.bl true) [] := ev_ret ((ev_and (μ1 := []) rfl).trans ((ev_and (μ1 := []) rfl).trans c))
  show R.ofS (b_is_int [some (.int g), some (.int lo), some (.int hi)] []) = _
  rw [this]
  rfl
theorem is_letters_ok {L : Str} (hL : f_is_letters [.str L] [] = .ok (.bl true) μ') {μ : Store} : callP 1 f_is_letters [.str L] μ = .ok (.bl true) μ := callP_pl rfl rfl hL rfl
theorem is_state_ok {L : Str} {many : Nat} {d : AD} (hl : (sL L).length < 1000000) (h : StL (sL L).length many d) {μ : Store} : callP 3 f_is_state [.str L, .int many, d] μ = .ok (.bl true) μ := by
  have hpl := h.pl' 397
  obtain ⟨b, gone, rfl, hg, hb⟩ := h.ex
  obtain ⟨gs, hgs⟩ : ∃ gs, gs = gone.map AD.int := ⟨_, rfl⟩
  have gl : gs.length = (sL L).length := by rw [hgs, List.length_map, hg]
  rw [← hgs] at hpl ⊢
  obtain ⟨S, hS⟩ : ∃ S : Slots, S = [some (.str L), some (.int many), some (.tup [.bl b, .tup gs]), none, none] := ⟨_, rfl⟩
  obtain ⟨S1, hS1⟩ : ∃ S : Slots, S = [some (.str L), some (.int many), some (.tup [.bl b, .tup gs]), some (.tup gs), none] := ⟨_, rfl⟩
  have e2 : eVar 2 S [] = .ok (.tup [.bl b, .tup gs]) [] := by rw [hS]; rfl
  have c1 : (tOrF (tNotF (tV (eUn (uIsi 4) (eVar 2)))) (tOrF (tV (eOp aNe (eB (b1 gLen) (aCons (eVar 2) aNil)) (eC (.int 2)))) (tNotF (tV (eUn (uIsi 1) (eOp aIxD (eVar 2) (eC (.int 0)))))))) S [] = .ok false [] := by
    refine (ev_or (ev_not (ev_tv (b := true) ((ev_un e2).trans rfl)))).trans ?_
    refine (ev_or (ev_tv ((ev_op (len_tup e2) (e2 := eC (.int 2)) (y := .int 2) rfl).trans (ne_ok rfl)))).trans ?_
    exact ev_not (ev_tv (b := true) ((ev_un (x := .bl b) (μ1 := []) ((ev_op (o := aIxD) e2 (e2 := eC (.int 0)) (y := .int 0) (μ2 := []) rfl).trans rfl)).trans rfl))
  have s1 : (sSet 3 (eOp aIxD (eVar 2) (eC (.int 1)))) S [] = .nx S1 [] := (ev_set ((ev_op e2 (e2 := eC (.int 1)) (y := .int 1) rfl).trans (rfl : _ = R.ok (AD.tup gs) []))).trans (by rw [hS, hS1]; rfl)
  have e3 : eVar 3 S1 [] = .ok (.tup gs) [] := by rw [hS1]; rfl
  have e0 : eVar 0 S1 [] = .ok (.str L) [] := by rw [hS1]; rfl
  have c2 : (tOrF (tNotF (tV (eUn (uIsi 4) (eVar 3)))) (tV (eOp aNe (eB (b1 gLen) (aCons (eVar 3) aNil)) (eB (b1 gLen) (aCons (eVar 0) aNil))))) S1 [] = .ok false [] := by
    refine (ev_or (ev_not (ev_tv (b := true) ((ev_un e3).trans rfl)))).trans ?_
    exact ev_tv ((ev_op (len_tup e3) (len_str e0 hl)).trans (ne_ok (by rw [gl])))
  have it : iSeq (eVar 3) S1 [] = .ok (.fix gs) [] := by rw [hS1]; rfl
  obtain ⟨μ', e4⟩ := ev_all (vs := [4]) (gs := tgN 4) (tt := tYesF) (fe := eCallP 3 f_is_int (aCons (eVar 4) (aCons (eC (.int 0)) (aCons (eOp aSub (eVar 1) (eC (.int 1))) aNil)))) it (fun d hd acc => by
    rw [hgs] at hd
    obtain ⟨g, hg, rfl⟩ := List.mem_map.mp hd
    have := hb g hg
    refine ⟨[some (.str L), some (.int many), some (.tup [.bl b, .tup gs]), some (.tup gs), some (.int g)], by rw [hS1]; rfl, rfl, ?_⟩
    exact ev_callP (ds := [.int g, .int 0, .int ((many : Int) - 1)]) rfl (is_int_ok this.1 (by omega))) (by omega)
  refine callP_pl rfl (ds := [.str L, .int many, .tup [.bl b, .tup gs]]) ?_ (?_ : f_is_state [.str L, .int many, .tup [.bl b, .tup gs]] [] = .ok (.bl true) μ') rfl
  · show (true && (true && (okD 400 (.tup [.bl b, .tup gs]) && true))) = true
    rw [ok_pl 400 _ hpl]
    rfl
  have : b_is_state S [] = .rt (.bl true) μ' := by
    refine (ev_seq ((ev_if c1).trans (rfl : _ = SR.nx S []))).trans ?_
    refine (ev_seq s1).trans ?_
    refine (ev_seq ((ev_if c2).trans (rfl : _ = SR.nx S1 []))).trans ?_
    exact ev_ret e4
  show R.ofS (b_is_state [some (.str L), some (.int many), some (.tup [.bl b, .tup gs]), none, none] []) = _
  rw [← hS, this]
  rfl
theorem is_machine_ok {L : Str} {m : AD} {ν : Store} (hL : f_is_letters [.str L] [] = .ok (.bl true) ν) (hl : (sL L).length < 1000000) (h : Mc L m) {μ : Store} : callP 1 f_is_machine [m] μ = .ok (.bl true) μ := by
  have hpl := h.pl' 395
  obtain ⟨st, rfl, n1, n2, hs⟩ := h.ex
  obtain ⟨S, hS⟩ : ∃ S : Slots, S = [some (.tup [.str L, .tup st]), none, none, none] := ⟨_, rfl⟩
  obtain ⟨S1, hS1⟩ : ∃ S : Slots, S = [some (.tup [.str L, .tup st]), some (.str L), some (.tup st), none] := ⟨_, rfl⟩
  have e0 : eVar 0 S [] = .ok (.tup [.str L, .tup st]) [] := by rw [hS]; rfl
  have c1 : (tOrF (tNotF (tV (eUn (uIsi 4) (eVar 0)))) (tOrF (tV (eOp aNe (eB (b1 gLen) (aCons (eVar 0) aNil)) (eC (.int 2)))) (tNotF (tV (eCallP 1 f_is_letters (aCons (eOp aIxD (eVar 0) (eC (.int 0))) aNil)))))) S [] = .ok false [] := by
    refine (ev_or (ev_not (ev_tv (b := true) ((ev_un e0).trans rfl)))).trans ?_
    refine (ev_or (ev_tv ((ev_op (len_tup e0) (e2 := eC (.int 2)) (y := .int 2) rfl).trans (ne_ok rfl)))).trans ?_
    exact ev_not (ev_tv (ev_callP (ev_cons ((ev_op e0 (e2 := eC (.int 0)) (y := .int 0) rfl).trans (rfl : _ = R.ok (AD.str L) [])) (f := aNil) (ds := []) rfl) (is_letters_ok hL)))
  have s1 : (sAsg (gT [1, 2]) (eVar 0)) S [] = .nx S1 [] := (ev_asg e0).trans (by rw [hS, hS1]; rfl)
  have e2 : eVar 2 S1 [] = .ok (.tup st) [] := by rw [hS1]; rfl
  have c2 : (tOrF (tNotF (tV (eUn (uIsi 4) (eVar 2)))) (tNotF (tV (eChain aLe aLe (eC (.int 1)) (eB (b1 gLen) (aCons (eVar 2) aNil)) (eC (.int 200)))))) S1 [] = .ok false [] := by
    refine (ev_or (ev_not (ev_tv (b := true) ((ev_un e2).trans rfl)))).trans ?_
    refine ev_not (ev_tv (b := true) ((ev_chain (e1 := eC (.int 1)) (x := .int 1) (μ1 := []) rfl (len_tup e2) (le_ok (by omega)) (e3 := eC (.int 200)) (z := .int 200) (μ4 := []) rfl).trans (le_ok (by omega))))
  have it : iSeq (eVar 2) S1 [] = .ok (.fix st) [] := by rw [hS1]; rfl
  obtain ⟨μ', e4⟩ := ev_all (vs := [3]) (gs := tgN 3) (tt := tYesF) (fe := eCallP 3 f_is_state (aCons (eVar 1) (aCons (eB (b1 gLen) (aCons (eVar 2) aNil)) (aCons (eVar 3) aNil)))) it (fun d hd acc => by
    refine ⟨[some (.tup [.str L, .tup st]), some (.str L), some (.tup st), some d], by rw [hS1]; rfl, rfl, ?_⟩
    refine ev_callP (ds := [.str L, .int st.length, d]) (ev_cons (e := eVar 1) (d := .str L) rfl (ev_cons (len_tup (e := eVar 2) (ds := st) rfl) (ev_cons (e := eVar 3) (d := d) rfl (f := aNil) (ds := []) rfl))) (is_state_ok hl (hs d hd))) (by omega)
  refine callP_pl rfl (ds := [.tup [.str L, .tup st]]) ?_ (?_ : f_is_machine [.tup [.str L, .tup st]] [] = .ok (.bl true) μ') rfl
  · show (okD 400 (.tup [.str L, .tup st]) && true) = true
    rw [ok_pl 400 _ hpl]
    rfl
  have : b_is_machine S [] = .rt (.bl true) μ' := by
    refine (ev_seq ((ev_if c1).trans (rfl : _ = SR.nx S []))).trans ?_
    refine (ev_seq s1).trans ?_
    refine (ev_seq ((ev_if c2).trans (rfl : _ = SR.nx S1 []))).trans ?_
    exact ev_ret e4
  show R.ofS (b_is_machine [some (.tup [.str L, .tup st]), none, none, none] []) = _
  rw [← hS, this]
  rfl
theorem machine_ok {L : Str} {m : AD} {ν : Store} (hL : f_is_letters [.str L] [] = .ok (.bl true) ν) (hl : (sL L).length < 1000000) (h : Mc L m) {μ : Store} : callP 1 f_look_at_machine [m] μ = .ok .non μ := by
  have ok : ([m] : List AD).all (okD fz) = true := by
    show (okD 400 m && true) = true
    rw [ok_pl 400 _ (h.pl' 395)]
    rfl
  refine callP_pl rfl ok (?_ : f_look_at_machine [m] [] = .ok .non []) rfl
  have c1 : (eCallP 1 f_is_machine (aCons (eVar 0) aNil)) [some m] [] = .ok (.bl true) [] := ev_callP (ds := [m]) rfl (is_machine_ok hL hl h)
  have : b_look_at_machine [some m] [] = .nx [some m] [] := (ev_if (ev_not (ev_tv c1))).trans rfl
  show R.ofS (b_look_at_machine [some m] []) = _
  rw [this]
  rfl
end P

set_option Elab.async false
set_option linter.all false
set_option maxRecDepth 100000
set_option maxHeartbeats 1000000
namespace P
open PySem PySem.Spec PyProof.Rows L2 SC G
/-! ### comprehensions that draw -/
theorem lc_draw {b : Int} {gs : AD → Slots → Option Slots} {tt : ST} {fe : SE} {s : Slots} {N q : Nat} {P : AD → Prop} {ρ : Store} : ∀ (ds : List AD) (n : Nat) (a c : Int) (acc : List AD),
    (∀ d ∈ ds, ∀ n a c (ρ : Store), Pot n a b c → n + q ≤ N → ∃ s1 e a' c', gs d s = some s1 ∧ tt s1 (potO a b c :: ρ) = .ok true (potO a b c :: ρ) ∧ fe s1 (potO a b c :: ρ) = .ok e (potO a' b c' :: ρ) ∧ Pot (n + q) a' b c' ∧ P e) →
    Pot n a b c → n + q * ds.length ≤ N → acc.length + ds.length < 1000000 →
    ∃ a' c' xs, Pot (n + q * ds.length) a' b c' ∧ xs.length = ds.length ∧ (∀ x ∈ xs, P x) ∧ lcL gs tt fe (ρ.length + 1) s ds (potO a b c :: (ρ ++ [.lst acc])) = .ok (.ref (ρ.length + 1)) (potO a' b c' :: (ρ ++ [.lst (acc ++ xs)]))
  | [], n, a, c, acc, _, p, _, _ => ⟨a, c, [], p, rfl, by simp, by rw [List.append_nil]; rfl⟩
  | d :: r, n, a, c, acc, H, p, hn, hl => by
    rw [List.length_cons] at hn hl
    rw [Nat.mul_succ] at hn
    obtain ⟨s1, e, a1, c1, h1, h2, h3, p1, he⟩ := H d (by simp) n a c (ρ ++ [.lst acc]) p (by omega)
    obtain ⟨a', c', xs, p', hx, hP, h⟩ := lc_draw r (n + q) a1 c1 (acc ++ [e]) (fun x hx => H x (by simp [hx])) p1 (by omega) (by rw [List.length_append, List.length_singleton]; omega)
    refine ⟨a', c', e :: xs, (show n + q + q * r.length = n + q * (d :: r).length by rw [List.length_cons, Nat.mul_succ]; omega) ▸ p', by rw [List.length_cons, List.length_cons, hx], fun x hm => ?_, ?_⟩
    · rcases List.mem_cons.mp hm with z | z
      · rw [z]; exact he
      · exact hP x z
    show lcStep gs tt fe (ρ.length + 1) s d (potO a b c :: (ρ ++ [.lst acc])) (lcL gs tt fe (ρ.length + 1) s r) = _
    unfold lcStep
    rw [h1]
    simp only [h2, h3]
    rw [List.getElem?_cons_succ, List.getElem?_append_right (Nat.le_refl _), Nat.sub_self]
    show chk (decide (acc.length < sizeLine)) (lcL gs tt fe (ρ.length + 1) s r (potO a1 b c1 :: (ρ ++ [AO.lst acc]).set ρ.length (AO.lst (acc ++ [e])))) = _
    rw [size_big (by omega), List.set_append_right _ _ (Nat.le_refl _), Nat.sub_self]
    show lcL gs tt fe (ρ.length + 1) s r (potO a1 b c1 :: (ρ ++ [.lst (acc ++ [e])])) = _
    rw [h, List.append_assoc]
    rfl
theorem ev_lcDraw {b : Int} {fi : SI} {vs : List Nat} {gs : AD → Slots → Option Slots} {tt : ST} {fe : SE} {s : Slots} {N q : Nat} {P : AD → Prop} {μ ρ : Store} {ds : List AD} {n : Nat} {a c : Int} (hi : fi s μ = .ok (.fix ds) (potO a b c :: ρ))
    (H : ∀ d ∈ ds, ∀ n a c (ρ : Store), Pot n a b c → n + q ≤ N → ∃ s1 e a' c', gs d (wipeS s vs) = some s1 ∧ tt s1 (potO a b c :: ρ) = .ok true (potO a b c :: ρ) ∧ fe s1 (potO a b c :: ρ) = .ok e (potO a' b c' :: ρ) ∧ Pot (n + q) a' b c' ∧ P e)
    (p : Pot n a b c) (hn : n + q * ds.length ≤ N) (hl : ds.length < 1000000) :
    ∃ a' c' xs, Pot (n + q * ds.length) a' b c' ∧ xs.length = ds.length ∧ (∀ x ∈ xs, P x) ∧ eLc fi vs gs tt fe s μ = .ok (.ref (ρ.length + 1)) (potO a' b c' :: (ρ ++ [.lst xs])) := by
  obtain ⟨a', c', xs, p', h1, h2, h3⟩ := lc_draw (ρ := ρ) ds n a c [] H p hn (by rw [List.length_nil]; omega)
  refine ⟨a', c', xs, p', h1, h2, ?_⟩
  unfold eLc
  rw [hi]
  exact h3
theorem last_get {ρ : Store} {o x : AO} : (o :: (ρ ++ [x]))[ρ.length + 1]? = some x := by
  rw [List.getElem?_cons_succ, List.getElem?_append_right (Nat.le_refl _), Nat.sub_self]
  rfl
theorem tuple_ref {e : SE} {s : Slots} {μ μ1 : Store} {k : Nat} {xs : List AD} (h : e s μ = .ok (.ref k) μ1) (hk : μ1[k]? = some (.lst xs)) : (eB (b1 gTuple) (aCons e aNil)) s μ = .ok (.tup xs) μ1 := by
  refine (ev_b1 (u := gTuple) h).trans ?_
  show (match lstD μ1 (.ref k) with | some es => R.ok (AD.tup es) μ1 | none => .bad) = _
  unfold lstD
  simp only [hk]
theorem eqI_ok {i j : Int} {μ : Store} : aEq (.int i) (.int j) μ = .ok (.bl (i == j)) μ := by
  have e : ∀ k, eqA μ (k + 1) (.int i) (.int j) = (i == j) := fun k => rfl
  show chk (okA μ 60 (.int i) && okA μ 60 (.int j)) (R.ok (AD.bl (eqA μ 60 (.int i) (.int j))) μ) = _
  rw [e 59]
  rfl
theorem rng1_ok {e : SE} {s : Slots} {μ μ1 : Store} {j : Int} (h : e s μ = .ok (.int j) μ1) (h0 : 0 ≤ j) (h1 : j < 1000000) : iRng1F e s μ = .ok (.fix (rngL 0 j.toNat)) μ1 := by
  unfold iRng1F
  rw [h]
  show chk (decide (-(2 ^ 62) ≤ j) && decide (j < 2 ^ 62)) _ = _
  rw [decide_eq_true (show -(2 ^ 62) ≤ j by omega), decide_eq_true (show j < 2 ^ 62 by omega)]
  rfl
/-! ### a drawn machine -/
def feG : SE := eB (b1 gInt) (aCons (eCallR 2 f__law_take (aCons (eVar 0) (aCons (eVar 3) aNil))) aNil)
def bodyM : SS := (sSeq (sSet 6 (eB (b1 gTuple) (aCons (eLc (iSeq (eVar 1)) [7] (tgN 7) tYesF feG) aNil))) (sDrop (eBm (fun d μ => isLst μ d) mApp (eVar 4) (aCons (eTup (aCons (eOp aEq (eCallR 2 f__law_take (aCons (eVar 0) (aCons (eC (.int 2)) aNil))) (eC (.int 0))) (aCons (eVar 6) aNil))) aNil))))
def SM (L : Str) (most many : Int) (x5 x6 : Option AD) : Slots := [some (.ref 0), some (.str L), some (.int most), some (.int many), some (.ref 1), x5, x6, none]
theorem ev_tup {fa : SA} {s : Slots} {μ μ1 : Store} {ds : List AD} (h : fa s μ = .ok ds μ1) (hl : ds.length < 1000000) : eTup fa s μ = .ok (.tup ds) μ1 := by
  unfold eTup
  rw [h]
  show chk (decide (ds.length ≤ sizeLine)) _ = _
  rw [size_le hl]
  rfl
theorem turnM {L : Str} {most : Int} {many : Nat} {x5 x6 : Option AD} {b : Int} (hL : (sL L).length ≤ 3) (hm : 1 ≤ many) (hm2 : many ≤ 200) {n : Nat} {a c : Int} (p : Pot n a b c) (hn : n + 10 < 900) {st : List AD} (hst : ∀ d ∈ st, StL (sL L).length many d) (hsl : st.length < 200) {ρ : Store} :
    ∃ a' c' y6 d ρ', Pot (n + (sL L).length + 1) a' b c' ∧ StL (sL L).length many d ∧ bodyM (SM L most many x5 x6) (potO a b c :: .lst st :: ρ) = .nx (SM L most many x5 y6) (potO a' b c' :: .lst (st ++ [d]) :: ρ') := by
  obtain ⟨S, hS⟩ : ∃ S : Slots, S = SM L most many x5 x6 := ⟨_, rfl⟩
  have it : iSeq (eVar 1) S (potO a b c :: .lst st :: ρ) = .ok (.fix (chars (sL L))) (potO a b c :: .lst st :: ρ) := by rw [hS]; rfl
  have cl : (chars (sL L)).length = (sL L).length := by rw [chars, List.length_map]
  obtain ⟨a1, c1, xs, p1, hxl, hxs, hlc⟩ := ev_lcDraw (P := fun e => ∃ g : Int, e = .int g ∧ 0 ≤ g ∧ g < many) (q := 1) (N := 899) (vs := [7]) (gs := tgN 7) (tt := tYesF) (fe := feG) it (fun d hd m a c ρ p hm' => by
    obtain ⟨g, a', c', g0, g1, p', h⟩ := takeR (j := 0) (u := many) (fa := aCons (eVar 0) (aCons (eVar 3) aNil)) (s := [some (.ref 0), some (.str L), some (.int most), some (.int many), some (.ref 1), x5, x6, some d]) (μ := potO a b c :: ρ) rfl rfl p (by omega) (by omega) (by
      have : ((many : Int)).natAbs ≤ 200 := by omega
      exact Nat.lt_of_le_of_lt this (by decide))
    exact ⟨[some (.ref 0), some (.str L), some (.int most), some (.int many), some (.ref 1), x5, x6, some d], .int g, a', c', by rw [hS]; rfl, rfl, (ev_b1 (u := gInt) h).trans rfl, p', g, rfl, g0, g1⟩) p (by rw [cl]; omega) (by rw [cl]; omega)
  rw [cl] at p1 hxl
  obtain ⟨gone, hgone, hgb⟩ : ∃ gone : List Int, xs = gone.map AD.int ∧ ∀ g ∈ gone, 0 ≤ g ∧ g < many := by
    clear hlc p1 hxl
    induction xs with
    | nil => exact ⟨[], rfl, by simp⟩
    | cons x r ih =>
      obtain ⟨gone, h1, h2⟩ := ih fun y hy => hxs y (by simp [hy])
      obtain ⟨g, rfl, h3⟩ := hxs x (by simp)
      exact ⟨g :: gone, by rw [h1]; rfl, fun y hy => by
        rcases List.mem_cons.mp hy with z | z
        · rw [z]; exact h3
        · exact h2 y z⟩
  obtain ⟨S1, hS1⟩ : ∃ S : Slots, S = SM L most many x5 (some (.tup xs)) := ⟨_, rfl⟩
  obtain ⟨ρ1, hρ1⟩ : ∃ ρ1 : Store, ρ1 = ρ ++ [.lst xs] := ⟨_, rfl⟩
  have s6 : (sSet 6 (eB (b1 gTuple) (aCons (eLc (iSeq (eVar 1)) [7] (tgN 7) tYesF feG) aNil))) S (potO a b c :: .lst st :: ρ) = .nx S1 (potO a1 b c1 :: .lst st :: ρ1) := by
    refine (ev_set (tuple_ref hlc last_get)).trans ?_
    rw [hS, hS1, hρ1]
    rfl
  obtain ⟨h, a2, c2, _, _, p2, ht⟩ := takeR (j := 0) (u := 2) (fa := aCons (eVar 0) (aCons (eC (.int 2)) aNil)) (s := S1) (μ := potO a1 b c1 :: .lst st :: ρ1) (by rw [hS1]; rfl) rfl p1 (by omega) (by decide) (by decide)
  have e1 : (eOp aEq (eCallR 2 f__law_take (aCons (eVar 0) (aCons (eC (.int 2)) aNil))) (eC (.int 0))) S1 (potO a1 b c1 :: .lst st :: ρ1) = .ok (.bl (h == 0)) (potO a2 b c2 :: .lst st :: ρ1) := (ev_op ht (e2 := eC (.int 0)) (y := .int 0) rfl).trans eqI_ok
  have e2 := ev_tup (ev_cons e1 (ev_cons (e := eVar 6) (d := .tup xs) (by rw [hS1]; rfl) (f := aNil) (ds := []) rfl)) (show ([AD.bl (h == 0), AD.tup xs] : List AD).length < 1000000 from Nat.lt_of_le_of_lt (Nat.le_refl 2) (by decide))
  have ap := ev_bm (ty := fun d μ => isLst μ d) (g := mApp) (fo := eVar 4) (x := .ref 1) (s := S1) (μ := potO a1 b c1 :: .lst st :: ρ1) (μ1 := potO a1 b c1 :: .lst st :: ρ1) (by rw [hS1]; rfl) rfl (ev_cons e2 (f := aNil) (ds := []) rfl)
  have ap2 : mApp (.ref 1) [.tup [.bl (h == 0), .tup xs]] (potO a2 b c2 :: .lst st :: ρ1) = .ok .non (potO a2 b c2 :: .lst (st ++ [.tup [.bl (h == 0), .tup xs]]) :: ρ1) := by
    show chk (decide (st.length < sizeLine)) _ = _
    rw [size_big (by omega)]
    rfl
  refine ⟨a2, c2, some (.tup xs), .tup [.bl (h == 0), .tup xs], ρ1, (show n + 1 * (sL L).length + 1 = n + (sL L).length + 1 by omega) ▸ p2, ⟨h == 0, gone, by rw [hgone], by rw [hgone, List.length_map] at hxl; exact hxl, hgb⟩, ?_⟩
  rw [← hS, ← hS1]
  exact (ev_seq s6).trans (ev_drop (ap.trans ap2))
theorem drawn_machine {L : Str} {most : Nat} {b : Int} (hL : (sL L).length ≤ 3) (hm : 1 ≤ most) (hm2 : most ≤ 50) {n : Nat} {a c : Int} (p : Pot n a b c) (hn : n + 11 + 4 * most < 900) :
    ∃ m a' c' ρ, Mc L m ∧ Pot (n + 1 + 4 * most) a' b c' ∧ f__law_drawn [.ref 0, .str L, .int most] [potO a b c] = .ok m (potO a' b c' :: ρ) := by
  obtain ⟨S, hS⟩ : ∃ S : Slots, S = [some (.ref 0), some (.str L), some (.int most), none, none, none, none, none] := ⟨_, rfl⟩
  obtain ⟨d, a1, c1, d0, d1, p1, ht⟩ := takeR (j := 0) (u := most) (fa := aCons (eVar 0) (aCons (eVar 2) aNil)) (s := S) (μ := [potO a b c]) (by rw [hS]; rfl) rfl p (by omega) (by omega) (by
    have : ((most : Int)).natAbs ≤ 50 := by omega
    exact Nat.lt_of_le_of_lt this (by decide))
  obtain ⟨many, hmany⟩ : ∃ many : Nat, (many : Int) = 1 + d := ⟨(1 + d).toNat, by omega⟩
  obtain ⟨S1, hS1⟩ : ∃ S : Slots, S = [some (.ref 0), some (.str L), some (.int most), some (.int many), none, none, none, none] := ⟨_, rfl⟩
  have s3 : (sSet 3 (eOp aAdd (eC (.int 1)) (eCallR 2 f__law_take (aCons (eVar 0) (aCons (eVar 2) aNil))))) S [potO a b c] = .nx S1 [potO a1 b c1] := by
    refine (ev_set (d := .int many) (μ1 := [potO a1 b c1]) ((ev_op (o := aAdd) (e1 := eC (.int 1)) (x := .int 1) rfl ht).trans ?_)).trans (by rw [hS, hS1]; rfl)
    rw [hmany]
    rfl
  have s4 : (sSet 4 (eOwn aNil)) S1 [potO a1 b c1] = .nx (SM L most many none none) [potO a1 b c1, .lst []] := (ev_set (d := .ref 1) (μ1 := [potO a1 b c1, .lst []]) rfl).trans (by rw [hS1]; rfl)
  have rg : (iRng1F (eVar 3)) (SM L most many none none) [potO a1 b c1, .lst []] = .ok (.fix (rngL 0 many)) [potO a1 b c1, .lst []] := by
    have q := rng1_ok (e := eVar 3) (s := SM L most many none none) (μ := [potO a1 b c1, .lst []]) (μ1 := [potO a1 b c1, .lst []]) (j := many) rfl (by omega) (by omega)
    rw [Int.toNat_natCast] at q
    exact q
  have rl : ∀ (k : Nat) (lo : Int), (rngL lo k).length = k := fun k => by
    induction k with
    | zero => intro _; rfl
    | succ k ih => intro lo; show (rngL (lo + 1) k).length + 1 = k + 1; rw [ih]
  obtain ⟨s', μ', hf, x5', x6', a', c', st, ρ', hs', hμ', p', hsl, hst⟩ := ev_forL (I := fun i s μ => ∃ x5 x6 a c st ρ, s = SM L most many x5 x6 ∧ μ = potO a b c :: .lst st :: ρ ∧ Pot (n + 1 + i * ((sL L).length + 1)) a b c ∧ st.length = i ∧ ∀ d ∈ st, StL (sL L).length many d) (g := gN 5) (body := bodyM) rg (fun e he i s μ hi h => by
    rw [rl] at hi
    obtain ⟨x5, x6, a, c, st, ρ, rfl, rfl, p, hl, hst⟩ := h
    have hb : n + 1 + i * ((sL L).length + 1) + 10 < 900 := by
      have h1 : i * ((sL L).length + 1) ≤ i * 4 := Nat.mul_le_mul_left i (by omega)
      omega
    obtain ⟨a', c', y6, d, ρ', p', hd, h'⟩ := turnM (most := most) (x5 := some e) (x6 := x6) hL (by omega) (by omega) p hb hst (by omega) (ρ := ρ)
    refine ⟨SM L most many (some e) x6, _, _, _, rfl, h', some e, y6, a', c', st ++ [d], ρ', rfl, rfl, (show n + 1 + i * ((sL L).length + 1) + (sL L).length + 1 = n + 1 + (i + 1) * ((sL L).length + 1) by rw [Nat.succ_mul]; omega) ▸ p', by rw [List.length_append, List.length_singleton, hl], fun x hx => ?_⟩
    rcases List.mem_append.mp hx with z | z
    · exact hst x z
    · simp at z; rw [z]; exact hd) ⟨none, none, a1, c1, [], [], rfl, rfl, by rw [Nat.zero_mul]; exact p1, rfl, by simp⟩
  rw [rl] at p' hsl
  refine ⟨.tup [.str L, .tup st], a', c', .lst st :: ρ', ⟨st, rfl, by omega, by omega, by rw [hsl]; exact hst⟩, pot_up p' ?_, ?_⟩
  · have h1 : many * ((sL L).length + 1) ≤ many * 4 := Nat.mul_le_mul_left many (by omega)
    omega
  have rt : (eTup (aCons (eVar 1) (aCons (eB (b1 gTuple) (aCons (eVar 4) aNil)) aNil))) s' μ' = .ok (.tup [.str L, .tup st]) μ' := ev_tup (ev_cons (e := eVar 1) (d := .str L) (by rw [hs']; rfl) (ev_cons (tuple_ref (e := eVar 4) (k := 1) (xs := st) (by rw [hs']; rfl) (by rw [hμ']; rfl)) (f := aNil) (ds := []) rfl)) (show ([AD.str L, AD.tup st] : List AD).length < 1000000 from Nat.lt_of_le_of_lt (Nat.le_refl 2) (by decide))
  have : b__law_drawn S [potO a b c] = .rt (.tup [.str L, .tup st]) μ' := (ev_seq s3).trans ((ev_seq s4).trans ((ev_seq hf).trans (ev_ret rt)))
  show R.ofS (b__law_drawn [some (.ref 0), some (.str L), some (.int most), none, none, none, none, none] [potO a b c]) = _
  rw [← hS, this, hμ']
  rfl
theorem machineR {L : Str} {most : Nat} (hL : (sL L).length ≤ 3) (hm : 1 ≤ most) (hm2 : most ≤ 50) {n j : Nat} {a b c : Int} {fa : SA} {s : Slots} {μ : Store} (hA : fa s μ = .ok [.ref j, .str L, .int most] μ) (hj : μ[j]? = some (potO a b c)) (p : Pot n a b c) (hn : n + 11 + 4 * most < 900) :
    ∃ m a' c', Mc L m ∧ Pot (n + 1 + 4 * most) a' b c' ∧ eCallR 3 f__law_drawn fa s μ = .ok m (μ.set j (potO a' b c')) := by
  obtain ⟨m, a', c', ρ, hm, p', h⟩ := drawn_machine hL hm hm2 p hn
  exact ⟨m, a', c', hm, p', ev_callR hA (callR_pot hj rfl rfl h (hm.pl' 395))⟩
end P

set_option Elab.async false
set_option linter.all false
set_option maxRecDepth 100000
set_option maxHeartbeats 1000000
namespace P
open PySem PySem.Spec PyProof.Rows L2 SC G
/-! ### what is heard -/
theorem heard_exc {j : Nat} {caps : List AD} {f : List AD → Store → R AD} {c : Str} {d : AD} (hj : lf j = some (0, f)) (hc : caps.all (plD 400) = true) (hf : f caps [] = .exc c d []) (hm : memS cls c = true) (hd : plD 400 d = true) : f__law_heard [.lamS j caps] [] = .ok (.tup [.exc c d, .non]) [] := by
  have e : eLamC 0 lf aNil [some (.lamS j caps), some .non, some .non, none] [] = .exc c d [] := by
    show (match lf j with
      | some (np, f) => lamC np f caps [] []
      | none => .bad) = _
    rw [hj]
    show (match mapO (frzD true 0 [] fz) caps with
      | some caps' => back0 true [] (f caps' [])
      | none => .bad) = _
    rw [mapO_id (f := frzD true 0 [] fz) (ds := caps) fun x hx => frz_pl 400 x (List.all_eq_true.mp hc x hx)]
    show back0 true [] (f caps []) = _
    rw [hf]
    show (match frzD true 0 [] fz d with | some d' => R.exc c d' [] | none => .bad) = _
    rw [show frzD true 0 [] fz d = some d from frz_pl 400 d hd]
  have t : (sTryK 3 1 (memS cls) (sSet 2 (eLamC 0 lf aNil))) [some (.lamS j caps), some .non, some .non, none] [] = .nx [some (.lamS j caps), some (.exc c d), some .non, none] [] := by
    have e2 : (sSet 2 (eLamC 0 lf aNil)) [some (.lamS j caps), some .non, some .non, none] [] = .exc c d [some (.lamS j caps), some .non, some .non, none] [] := by unfold sSet; rw [e]; rfl
    unfold sTryK
    rw [e2]
    show (if memS cls c = true then _ else _) = _
    rw [if_pos hm]
    rfl
  have : b__law_heard [some (.lamS j caps), none, none, none] [] = .rt (.tup [.exc c d, .non]) [] := by
    refine (ev_seq (s1 := [some (.lamS j caps), some .non, some .non, none]) (μ1 := []) rfl).trans ?_
    refine (ev_seq t).trans ?_
    exact ev_ret (ev_tup (ds := [.exc c d, .non]) rfl (by show 2 < 1000000; decide))
  show R.ofS (b__law_heard [some (.lamS j caps), none, none, none] []) = _
  rw [this]
  rfl
theorem seal_pl {cap : Nat → Option (List Nat)} {s : Slots} {μ : Store} : ∀ (k : Nat) (d : AD), plD k d = true → sealD cap s μ k d = some d
  | 0, _, h => by simp [plD] at h
  | k + 1, d, h => by
    have go : ∀ ds : List AD, ds.all (plD k) = true → mapO (sealD cap s μ k) ds = some ds := fun ds z => mapO_id fun x hx => seal_pl k x (List.all_eq_true.mp z x hx)
    cases d with
    | tup ds => unfold sealD; simp only; rw [go ds h]
    | lst ds => unfold sealD; simp only; rw [go ds h]
    | ref _ => simp [plD] at h
    | scr _ => simp [plD] at h
    | exc _ _ => simp [plD] at h
    | lamR _ => simp [plD] at h
    | lamS _ _ => simp [plD] at h
    | _ => rfl
theorem seal_lam {cap : Nat → Option (List Nat)} {s : Slots} {μ : Store} (k : Nat) {j : Nat} {is : List Nat} {caps : List AD} (hc : cap j = some is) (hs : mapO (fun i => (s[i]?).bind id) is = some caps) (hp : caps.all (plD k) = true) : sealD cap s μ (k + 1) (.lamR j) = some (.lamS j caps) := by
  have go : ∀ (is : List Nat) (caps : List AD), mapO (fun i => (s[i]?).bind id) is = some caps → caps.all (plD k) = true → mapO (fun i => match s[i]? with
          | some (some d) => sealD cap s μ k d
          | _ => none) is = some caps := fun is => by
    induction is with
    | nil => intro caps h _; exact h
    | cons i r ih =>
      intro caps h hp
      unfold mapO at h
      cases e : s[i]? with
      | none => rw [e] at h; cases h
      | some o =>
        cases o with
        | none => rw [e] at h; cases h
        | some d =>
          rw [e] at h
          simp only [Option.bind_some, id] at h
          cases e2 : mapO (fun i => (s[i]?).bind id) r with
          | none => rw [e2] at h; cases h
          | some ds =>
            rw [e2] at h
            cases h
            rw [List.all_cons, Bool.and_eq_true] at hp
            unfold mapO
            rw [e, ih ds e2 hp.2]
            simp only
            rw [seal_pl k d hp.1]
  unfold sealD
  simp only [hc]
  exact congrArg (fun o : Option (List AD) => match o with | some ds' => some (AD.lamS j ds') | none => none) (go is caps hs hp)
/-- plain data without lists -/
def plQ : Nat → AD → Bool
  | 0, _ => false
  | k + 1, d => match d with
    | .non => true | .bl _ => true | .int _ => true | .str _ => true
    | .tup ds => ds.all (plQ k)
    | _ => false
theorem frz_pq {L : Bool} {m : Nat} {μ : Store} : ∀ (k : Nat) (d : AD), plQ k d = true → frzD L m μ k d = some d
  | 0, _, h => by simp [plQ] at h
  | k + 1, d, h => by
    have go : ∀ ds : List AD, ds.all (plQ k) = true → mapO (frzD L m μ k) ds = some ds := fun ds z => mapO_id fun x hx => frz_pq k x (List.all_eq_true.mp z x hx)
    cases d with
    | tup ds => unfold frzD; simp only; rw [go ds h]
    | lst ds => simp [plQ] at h
    | ref _ => simp [plQ] at h
    | scr _ => simp [plQ] at h
    | exc _ _ => simp [plQ] at h
    | lamR _ => simp [plQ] at h
    | lamS _ _ => simp [plQ] at h
    | ty _ => simp [plQ] at h
    | _ => rfl
theorem pl_pq : ∀ (k : Nat) (d : AD), plQ k d = true → plD k d = true
  | 0, _, h => by simp [plQ] at h
  | k + 1, d, h => by
    cases d with
    | tup ds => exact List.all_eq_true.mpr fun x hx => pl_pq k x (List.all_eq_true.mp h x hx)
    | lst ds => simp [plQ] at h
    | ref _ => simp [plQ] at h
    | scr _ => simp [plQ] at h
    | exc _ _ => simp [plQ] at h
    | lamR _ => simp [plQ] at h
    | lamS _ _ => simp [plQ] at h
    | ty _ => simp [plQ] at h
    | _ => rfl
theorem frz_pair (k : Nat) {L : Bool} {m : Nat} {μ : Store} {c : Str} {d : AD} (h : plQ k d = true) : frzD L m μ (k + 2) (.tup [.exc c d, .non]) = some (.tup [.exc c d, .non]) := by
  have e1 : frzD L m μ (k + 1) (.exc c d) = some (.exc c d) := by unfold frzD; simp only; rw [frz_pq k d h]
  unfold frzD
  simp only
  unfold mapO
  rw [e1]
  simp only
  unfold mapO
  rw [show frzD L m μ (k + 1) .non = some .non from rfl]
  simp only
  unfold mapO
  rfl
def elemL (cap : List (Nat × List Nat)) : SE := eOp aIxD (eCallL 1 f__law_heard (capF cap) (aCons (eVar 6) aNil)) (eC (.int 0))
theorem plD_up : ∀ (k : Nat) (d : AD), plD k d = true → plD (k + 1) d = true := fun k => by
  induction k with
  | zero => intro d h; simp [plD] at h
  | succ k ih =>
    intro d h
    cases d with
    | tup ds => exact List.all_eq_true.mpr fun x hx => ih x (List.all_eq_true.mp h x hx)
    | lst ds => exact List.all_eq_true.mpr fun x hx => ih x (List.all_eq_true.mp h x hx)
    | ref _ => simp [plD] at h
    | scr _ => simp [plD] at h
    | exc _ _ => simp [plD] at h
    | lamR _ => simp [plD] at h
    | lamS _ _ => simp [plD] at h
    | _ => rfl
theorem elem_exc {cap : List (Nat × List Nat)} {s : Slots} {μ : Store} {j : Nat} {is : List Nat} {caps : List AD} {f : List AD → Store → R AD} {c : Str} {d : AD} (h6 : s[6]? = some (some (.lamR j))) (hk : capF cap j = some is) (hs : mapO (fun i => (s[i]?).bind id) is = some caps) (hc : caps.all (plD 399) = true)
    (hj : lf j = some (0, f)) (hf : f caps [] = .exc c d []) (hm : memS cls c = true) (hd : plQ 398 d = true) : elemL cap s μ = .ok (.exc c d) μ := by
  have a1 : (aCons (eVar 6) aNil) s μ = .ok [.lamR j] μ := ev_cons (e := eVar 6) (d := .lamR j) (by unfold eVar; rw [h6]) (f := aNil) (ds := []) rfl
  have hd2 := plD_up _ _ (plD_up _ _ (pl_pq _ _ hd))
  have e1 : (eCallL 1 f__law_heard (capF cap) (aCons (eVar 6) aNil)) s μ = .ok (.tup [.exc c d, .non]) μ := by
    unfold eCallL
    rw [a1]
    show (match mapO (sealD (capF cap) s μ fz) [.lamR j] with
      | some ds' => back0 false μ (f__law_heard ds' [])
      | none => .bad) = _
    have q : mapO (sealD (capF cap) s μ fz) [.lamR j] = some [.lamS j caps] := by
      unfold mapO
      rw [show sealD (capF cap) s μ fz (.lamR j) = some (.lamS j caps) from seal_lam 399 hk hs hc]
      rfl
    rw [q]
    show back0 false μ (f__law_heard [.lamS j caps] []) = _
    rw [heard_exc hj (List.all_eq_true.mpr fun x hx => plD_up _ _ (List.all_eq_true.mp hc x hx)) hf hm hd2]
    show (match frzD false 0 [] fz (.tup [.exc c d, .non]) with | some d' => R.ok d' μ | none => .bad) = _
    rw [show frzD false 0 [] fz (.tup [.exc c d, .non]) = some (.tup [.exc c d, .non]) from frz_pair 398 hd]
  exact (ev_op e1 (e2 := eC (.int 0)) (y := .int 0) rfl).trans rfl
end P

set_option Elab.async false
set_option linter.all false
set_option maxRecDepth 100000
set_option maxHeartbeats 1000000
namespace P
open PySem PySem.Spec PyProof.Rows L2 SC G
theorem ev_allO {fi : SI} {vs : List Nat} {gs : AD → Slots → Option Slots} {tt : ST} {fe : SE} {s : Slots} {μ μ1 : Store} {m : Nat} {ds : List AD} (hi : fi s μ = .ok (.own m) μ1) (hm : μ1[m]? = some (.lst ds)) (H : ∀ d ∈ ds, PureAt gs tt fe (wipeS s vs) μ1 d (.bl true)) (hl : ds.length < 1000000) :
    eB (b1 (gBls allB)) (aCons (eLc fi vs gs tt fe) aNil) s μ = .ok (.bl true) (μ1 ++ [.lst (List.replicate ds.length (.bl true))]) := by
  have e1 := ev_lcO (h := fun _ => .bl true) hi hm H hl
  refine (ev_b1 (u := gBls allB) e1).trans ?_
  rw [List.map_const']
  have e3 : lstD (μ1 ++ [.lst (List.replicate ds.length (.bl true))]) (.ref μ1.length) = some (List.replicate ds.length (.bl true)) := by
    show (match (μ1 ++ [AO.lst (List.replicate ds.length (.bl true))])[μ1.length]? with | some (.lst ds) => some ds | _ => none) = _
    rw [List.getElem?_append_right (Nat.le_refl _), Nat.sub_self]
    rfl
  unfold gBls
  rw [e3]
  simp only [blsA_true, allB_true]
theorem end_get {μ : Store} {x : AO} : (μ ++ [x])[μ.length]? = some x := by
  rw [List.getElem?_append_right (Nat.le_refl _), Nat.sub_self]
  rfl
theorem src_own {e : SE} {s : Slots} {μ μ1 : Store} {m : Nat} {ds : List AD} (h : e s μ = .ok (.ref m) μ1) (hm : μ1[m]? = some (.lst ds)) : iSeq e s μ = .ok (.own m) μ1 := by
  unfold iSeq
  rw [h]
  show (match srcOf μ1 (.ref m) with | some r => R.ok r μ1 | none => .bad) = _
  unfold srcOf
  simp only [hm]
theorem ev_var {s : Slots} {μ : Store} {i : Nat} {d : AD} (h : s[i]? = some (some d)) : eVar i s μ = .ok d μ := by unfold eVar; rw [h]
theorem own_lam {j i : Nat} {s : Slots} {μ : Store} : sSet i (eOwn (aCons (eLam j) aNil)) s μ = .nx (s.set i (some (.ref μ.length))) (μ ++ [.lst [.lamR j]]) := by
  refine ev_set ?_
  unfold eOwn
  show chk (decide (1 ≤ sizeLine)) (R.ok (AD.ref μ.length) (μ ++ [.lst [.lamR j]])) = _
  rw [size_le (by decide)]
  rfl
theorem app_lam {j : Nat} {s : Slots} {μ : Store} {xs : List AD} (h : s[3]? = some (some (.ref μ.length))) (hl : xs.length < 1000) : sDrop (eBm (fun d μ => isLst μ d) mApp (eVar 3) (aCons (eLam j) aNil)) s (μ ++ [.lst xs]) = .nx s (μ ++ [.lst (xs ++ [.lamR j])]) := by
  have ty : isLst (μ ++ [.lst xs]) (.ref μ.length) = true := by
    unfold isLst lstD
    simp only [end_get]
  refine ev_drop (d := .non) ((ev_bm (ty := fun d μ => isLst μ d) (x := .ref μ.length) (μ1 := μ ++ [.lst xs]) (μ2 := μ ++ [.lst xs]) (ds := [.lamR j]) (ev_var h) ty rfl).trans ?_)
  unfold mApp
  simp only [end_get]
  rw [size_big (by omega), List.set_append_right _ _ (Nat.le_refl _), Nat.sub_self]
  rfl
def S8 (L d : AD) (r : Nat) (x4 x5 : Option AD) : Slots := [some (.ref 0), some L, some d, some (.ref r), x4, x5, none, none]
def caughtE (cap : List (Nat × List Nat)) : SE := eLc (iSeq (eVar 3)) [6] (tgN 6) tYesF (elemL cap)
def rightE (c : Str) : SE := eB (b1 (gBls allB)) (aCons (eLc (iSeq (eVar 4)) [7] (tgN 7) tYesF (eAnd (eUn (uIsX (subU cls c)) (eVar 7)) (eRep true (eUn (uVal (memS cls)) (eVar 7)) (eVar 2)))) aNil)
structure LamX' (cap : List (Nat × List Nat)) (S : Slots) (c : Str) (d : AD) (j : Nat) : Prop where
  ex : ∃ is caps f, capF cap j = some is ∧ mapO (fun i => ((S.set 6 (some (.lamR j)))[i]?).bind id) is = some caps ∧ caps.all (plD 399) = true ∧ lf j = some (0, f) ∧ f caps [] = .exc c d []
section
variable {cap : List (Nat × List Nat)} {L d : AD} {x4 x5 : Option AD} {c : Str} {js : List Nat} {μ : Store}
theorem caught_ok (hm : memS cls c = true) (hd : plQ 398 d = true) (H : ∀ j ∈ js, LamX' cap (S8 L d μ.length x4 x5) c d j) (hl : js.length < 1000) :
    sSet 4 (caughtE cap) (S8 L d μ.length x4 x5) (μ ++ [.lst (js.map .lamR)]) = .nx (S8 L d μ.length (some (.ref (μ.length + 1))) x5) (μ ++ [.lst (js.map .lamR), .lst (js.map fun _ => .exc c d)]) := by
  have it : iSeq (eVar 3) (S8 L d μ.length x4 x5) (μ ++ [.lst (js.map .lamR)]) = .ok (.own μ.length) (μ ++ [.lst (js.map .lamR)]) := src_own (ev_var rfl) end_get
  have lc := ev_lcO (vs := [6]) (gs := tgN 6) (tt := tYesF) (fe := elemL cap) (h := fun _ => AD.exc c d) it end_get (fun x hx acc => by
    obtain ⟨j, hj, rfl⟩ := List.mem_map.mp hx
    obtain ⟨is, caps, f, h1, h2, h3, h4, h5⟩ := (H j hj).ex
    refine ⟨(S8 L d μ.length x4 x5).set 6 (some (.lamR j)), rfl, rfl, ?_⟩
    exact elem_exc rfl h1 h2 h3 h4 h5 hm hd) (by rw [List.length_map]; omega)
  refine (ev_set lc).trans ?_
  rw [List.map_map, List.append_assoc, List.length_append, List.length_singleton]
  rfl
theorem right_ok (hm : memS cls c = true) (hs : ∀ μ, showA μ d = true ∧ sameA μ μ 60 d d = true) (hl : js.length < 1000) {r : Nat} (hr : μ[r]? = some (.lst (js.map fun _ => .exc c d))) {q : Nat} :
    rightE c (S8 L d q (some (.ref r)) x5) μ = .ok (.bl true) (μ ++ [.lst (List.replicate js.length (.bl true))]) := by
  have it : iSeq (eVar 4) (S8 L d q (some (.ref r)) x5) μ = .ok (.own r) μ := src_own (ev_var rfl) hr
  have al := ev_allO (vs := [7]) (gs := tgN 7) (tt := tYesF) (fe := (eAnd (eUn (uIsX (subU cls c)) (eVar 7)) (eRep true (eUn (uVal (memS cls)) (eVar 7)) (eVar 2)))) it hr (fun x hx acc => by
    obtain ⟨j, hj, rfl⟩ := List.mem_map.mp hx
    refine ⟨[some (.ref 0), some L, some d, some (.ref q), some (.ref r), x5, none, some (.exc c d)], rfl, rfl, ?_⟩
    obtain ⟨ν, hν⟩ : ∃ ν : Store, ν = μ ++ [.lst acc] := ⟨_, rfl⟩
    rw [← hν]
    have v7 : eVar 7 [some (.ref 0), some L, some d, some (.ref q), some (.ref r), x5, none, some (.exc c d)] ν = .ok (.exc c d) ν := rfl
    have v2 : eVar 2 [some (.ref 0), some L, some d, some (.ref q), some (.ref r), x5, none, some (.exc c d)] ν = .ok d ν := rfl
    have u1 : uIsX (subU cls c) (.exc c d) ν = .ok (.bl true) ν := by
      unfold uIsX subU
      simp only [hm, if_true, decide_true]
    have u2 : uVal (memS cls) (.exc c d) ν = .ok d ν := by
      unfold uVal
      simp only [hm, if_true]
    refine (ev_and ((ev_un v7).trans u1)).trans ?_
    unfold eRep
    rw [(ev_un v7).trans u2]
    show chk (showA ν d) (R.bind (eVar 2 _ ν) _) = _
    rw [(hs ν).1, v2]
    show chk (showA ν d && sameA ν ν 60 d d) _ = _
    rw [(hs ν).1, (hs ν).2]
    rfl) (by rw [List.length_map]; omega)
  rw [List.length_map] at al
  exact al
theorem stage (hm : memS cls c = true) (hd : plQ 398 d = true) (hs : ∀ μ, showA μ d = true ∧ sameA μ μ 60 d d = true) (H : ∀ j ∈ js, LamX' cap (S8 L d μ.length x4 x5) c d j) (hl : js.length < 1000) {REST : SS} :
    sSeq (sSet 4 (caughtE cap)) (sSeq (sIf (tNotF (tV (rightE c))) (sRet (eC (.bl false))) sPass) REST) (S8 L d μ.length x4 x5) (μ ++ [.lst (js.map .lamR)]) = REST (S8 L d μ.length (some (.ref (μ.length + 1))) x5) (μ ++ [.lst (js.map .lamR), .lst (js.map fun _ => .exc c d), .lst (List.replicate js.length (.bl true))]) := by
  refine (ev_seq (caught_ok hm hd H hl)).trans ?_
  have r := right_ok (L := L) (x5 := x5) (c := c) (μ := μ ++ [.lst (js.map .lamR), .lst (js.map fun _ => .exc c d)]) (r := μ.length + 1) (q := μ.length) hm hs hl (by
    rw [List.getElem?_append_right (by omega), Nat.add_sub_cancel_left]
    rfl)
  refine (ev_seq ((ev_if (ev_not (ev_tv r))).trans (rfl : _ = SR.nx (S8 L d μ.length (some (.ref (μ.length + 1))) x5) _))).trans ?_
  rw [List.append_assoc]
  rfl
theorem stage_end (hm : memS cls c = true) (hd : plQ 398 d = true) (hs : ∀ μ, showA μ d = true ∧ sameA μ μ 60 d d = true) (H : ∀ j ∈ js, LamX' cap (S8 L d μ.length x4 x5) c d j) (hl : js.length < 1000) :
    sSeq (sSet 4 (caughtE cap)) (sRet (rightE c)) (S8 L d μ.length x4 x5) (μ ++ [.lst (js.map .lamR)]) = .rt (.bl true) (μ ++ [.lst (js.map .lamR), .lst (js.map fun _ => .exc c d), .lst (List.replicate js.length (.bl true))]) := by
  refine (ev_seq (caught_ok hm hd H hl)).trans ?_
  have r := right_ok (L := L) (x5 := x5) (c := c) (μ := μ ++ [.lst (js.map .lamR), .lst (js.map fun _ => .exc c d)]) (r := μ.length + 1) (q := μ.length) hm hs hl (by
    rw [List.getElem?_append_right (by omega), Nat.add_sub_cancel_left]
    rfl)
  refine (ev_ret r).trans ?_
  rw [List.append_assoc]
  rfl
end
end P

set_option Elab.async false
set_option linter.all false
set_option maxRecDepth 100000
set_option maxHeartbeats 1000000
namespace P
open PySem PySem.Spec PyProof.Rows L2 SC G
theorem nx_draw {n k : Nat} {a b c : Int} {xs : List AD} {fa : SA} {s : Slots} {μ : Store} {j : Nat} (hA : fa s μ = .ok [.ref j, .lst xs] μ) (hj : μ[j]? = some (potO a b c)) (p : Pot n a b c) (hn : n < 900) (h0 : 0 < xs.length) (h1 : xs.length < 1000) (hz : xs.all (plD 399) = true) :
    ∃ d a' c', d ∈ xs ∧ Pot (n + 1) a' b c' ∧ sSet k (eCallR 2 f__law_of fa) s μ = .nx (s.set k (some d)) (μ.set j (potO a' b c')) := by
  obtain ⟨d, a', c', hd, p', h⟩ := draw_ok hA hj p hn h0 h1 hz
  exact ⟨d, a', c', hd, p', ev_set h⟩
def x1 : List AD := [.non, .str "", .str "ba", .str "aa", .str "abcd", .int 0, .tup [.str "a"]]
def x2 (L : Str) : List AD := [.non, .str "Q", .int 0, .tup [.str "a"], .str (lS (sL L ++ sL "q"))]
def x3 : List AD := [.int 0, .int 7, .int (-1), .non, .bl true, .str "2"]
/-- what is plain and shown -/
def Od (d : AD) : Prop := plQ 398 d = true ∧ ∀ μ, showA μ d = true ∧ sameA μ μ 60 d d = true
theorem od1 : ∀ d ∈ x1, Od d := fun d h => by
  simp only [x1, List.mem_cons, List.not_mem_nil, or_false] at h
  rcases h with rfl | rfl | rfl | rfl | rfl | rfl | rfl <;> exact ⟨by kernel_rfl, fun μ => ⟨by kernel_rfl, by kernel_rfl⟩⟩
theorem od3 : ∀ d ∈ x3, Od d := fun d h => by
  simp only [x3, List.mem_cons, List.not_mem_nil, or_false] at h
  rcases h with rfl | rfl | rfl | rfl | rfl | rfl <;> exact ⟨by kernel_rfl, fun μ => ⟨by kernel_rfl, by kernel_rfl⟩⟩
theorem exA : ∀ d ∈ x1, l_0 [d] [] = .exc "BadLetters" d [] ∧ l_1 [d] [] = .exc "BadLetters" d [] := fun d h => by
  simp only [x1, List.mem_cons, List.not_mem_nil, or_false] at h
  rcases h with rfl | rfl | rfl | rfl | rfl | rfl | rfl <;> exact ⟨by kernel_rfl, by kernel_rfl⟩
structure BL (L : Str) : Prop where
  lt : Lt L
  is : ∃ ν, f_is_letters [.str L] [] = .ok (.bl true) ν
  od : ∀ d ∈ x2 L, Od d
  exB : ∀ d ∈ x2 L, l_2 [.str L, d] [] = .exc "BadWord" d [] ∧ l_3 [.str L, d] [] = .exc "BadWord" d [] ∧ l_4 [.str L, d] [] = .exc "BadWord" d []
  exC : ∀ d ∈ x3, l_5 [.str L, d] [] = .exc "BadNumber" d [] ∧ l_6 [.str L, d] [] = .exc "BadNumber" d []
theorem mem5 {P : AD → Prop} {x y z u v : AD} (h1 : P x) (h2 : P y) (h3 : P z) (h4 : P u) (h5 : P v) : ∀ d ∈ [x, y, z, u, v], P d := fun d h => by
  simp only [List.mem_cons, List.not_mem_nil, or_false] at h
  rcases h with rfl | rfl | rfl | rfl | rfl <;> assumption
theorem mem6 {P : AD → Prop} {x y z u v w : AD} (h1 : P x) (h2 : P y) (h3 : P z) (h4 : P u) (h5 : P v) (h6 : P w) : ∀ d ∈ [x, y, z, u, v, w], P d := fun d h => by
  simp only [List.mem_cons, List.not_mem_nil, or_false] at h
  rcases h with rfl | rfl | rfl | rfl | rfl | rfl <;> assumption
theorem od_now {d : AD} (h1 : plQ 398 d = true) (h2 : ∀ μ, showA μ d = true) (h3 : ∀ μ, sameA μ μ 60 d d = true) : Od d := ⟨h1, fun μ => ⟨h2 μ, h3 μ⟩⟩
theorem bl_a : BL "a" where
  lt := lt_a
  is := ⟨[.lst [.bl true]], by kernel_rfl⟩
  od := mem5 (od_now (by kernel_rfl) (fun μ => by kernel_rfl) fun μ => by kernel_rfl) (od_now (by kernel_rfl) (fun μ => by kernel_rfl) fun μ => by kernel_rfl) (od_now (by kernel_rfl) (fun μ => by kernel_rfl) fun μ => by kernel_rfl) (od_now (by kernel_rfl) (fun μ => by kernel_rfl) fun μ => by kernel_rfl) (od_now (by kernel_rfl) (fun μ => by kernel_rfl) fun μ => by kernel_rfl)
  exB := mem5 ⟨by kernel_rfl, by kernel_rfl, by kernel_rfl⟩ ⟨by kernel_rfl, by kernel_rfl, by kernel_rfl⟩ ⟨by kernel_rfl, by kernel_rfl, by kernel_rfl⟩ ⟨by kernel_rfl, by kernel_rfl, by kernel_rfl⟩ ⟨by kernel_rfl, by kernel_rfl, by kernel_rfl⟩
  exC := mem6 ⟨by kernel_rfl, by kernel_rfl⟩ ⟨by kernel_rfl, by kernel_rfl⟩ ⟨by kernel_rfl, by kernel_rfl⟩ ⟨by kernel_rfl, by kernel_rfl⟩ ⟨by kernel_rfl, by kernel_rfl⟩ ⟨by kernel_rfl, by kernel_rfl⟩
theorem bl_ab : BL "ab" where
  lt := lt_ab
  is := ⟨[.lst [.bl true, .bl true]], by kernel_rfl⟩
  od := mem5 (od_now (by kernel_rfl) (fun μ => by kernel_rfl) fun μ => by kernel_rfl) (od_now (by kernel_rfl) (fun μ => by kernel_rfl) fun μ => by kernel_rfl) (od_now (by kernel_rfl) (fun μ => by kernel_rfl) fun μ => by kernel_rfl) (od_now (by kernel_rfl) (fun μ => by kernel_rfl) fun μ => by kernel_rfl) (od_now (by kernel_rfl) (fun μ => by kernel_rfl) fun μ => by kernel_rfl)
  exB := mem5 ⟨by kernel_rfl, by kernel_rfl, by kernel_rfl⟩ ⟨by kernel_rfl, by kernel_rfl, by kernel_rfl⟩ ⟨by kernel_rfl, by kernel_rfl, by kernel_rfl⟩ ⟨by kernel_rfl, by kernel_rfl, by kernel_rfl⟩ ⟨by kernel_rfl, by kernel_rfl, by kernel_rfl⟩
  exC := mem6 ⟨by kernel_rfl, by kernel_rfl⟩ ⟨by kernel_rfl, by kernel_rfl⟩ ⟨by kernel_rfl, by kernel_rfl⟩ ⟨by kernel_rfl, by kernel_rfl⟩ ⟨by kernel_rfl, by kernel_rfl⟩ ⟨by kernel_rfl, by kernel_rfl⟩
theorem bl_xy : BL "xy" where
  lt := lt_xy
  is := ⟨[.lst [.bl true, .bl true]], by kernel_rfl⟩
  od := mem5 (od_now (by kernel_rfl) (fun μ => by kernel_rfl) fun μ => by kernel_rfl) (od_now (by kernel_rfl) (fun μ => by kernel_rfl) fun μ => by kernel_rfl) (od_now (by kernel_rfl) (fun μ => by kernel_rfl) fun μ => by kernel_rfl) (od_now (by kernel_rfl) (fun μ => by kernel_rfl) fun μ => by kernel_rfl) (od_now (by kernel_rfl) (fun μ => by kernel_rfl) fun μ => by kernel_rfl)
  exB := mem5 ⟨by kernel_rfl, by kernel_rfl, by kernel_rfl⟩ ⟨by kernel_rfl, by kernel_rfl, by kernel_rfl⟩ ⟨by kernel_rfl, by kernel_rfl, by kernel_rfl⟩ ⟨by kernel_rfl, by kernel_rfl, by kernel_rfl⟩ ⟨by kernel_rfl, by kernel_rfl, by kernel_rfl⟩
  exC := mem6 ⟨by kernel_rfl, by kernel_rfl⟩ ⟨by kernel_rfl, by kernel_rfl⟩ ⟨by kernel_rfl, by kernel_rfl⟩ ⟨by kernel_rfl, by kernel_rfl⟩ ⟨by kernel_rfl, by kernel_rfl⟩ ⟨by kernel_rfl, by kernel_rfl⟩
theorem bl_abc : BL "abc" where
  lt := lt_abc
  is := ⟨[.lst [.bl true, .bl true, .bl true]], by kernel_rfl⟩
  od := mem5 (od_now (by kernel_rfl) (fun μ => by kernel_rfl) fun μ => by kernel_rfl) (od_now (by kernel_rfl) (fun μ => by kernel_rfl) fun μ => by kernel_rfl) (od_now (by kernel_rfl) (fun μ => by kernel_rfl) fun μ => by kernel_rfl) (od_now (by kernel_rfl) (fun μ => by kernel_rfl) fun μ => by kernel_rfl) (od_now (by kernel_rfl) (fun μ => by kernel_rfl) fun μ => by kernel_rfl)
  exB := mem5 ⟨by kernel_rfl, by kernel_rfl, by kernel_rfl⟩ ⟨by kernel_rfl, by kernel_rfl, by kernel_rfl⟩ ⟨by kernel_rfl, by kernel_rfl, by kernel_rfl⟩ ⟨by kernel_rfl, by kernel_rfl, by kernel_rfl⟩ ⟨by kernel_rfl, by kernel_rfl, by kernel_rfl⟩
  exC := mem6 ⟨by kernel_rfl, by kernel_rfl⟩ ⟨by kernel_rfl, by kernel_rfl⟩ ⟨by kernel_rfl, by kernel_rfl⟩ ⟨by kernel_rfl, by kernel_rfl⟩ ⟨by kernel_rfl, by kernel_rfl⟩ ⟨by kernel_rfl, by kernel_rfl⟩
/-! ### numbers refused with a machine -/
theorem num_bad : ∀ d ∈ x3, ∀ μ, callP 3 f_look_at_number [d, .int 1, .int 6] μ = .exc "BadNumber" d μ := by
  have key : ∀ d, f_look_at_number [d, .int 1, .int 6] [] = .exc "BadNumber" d [] → okD fz d = true → plD 400 d = true → ∀ μ, callP 3 f_look_at_number [d, .int 1, .int 6] μ = .exc "BadNumber" d μ := fun d h1 h2 h3 μ => callP_exc rfl (by show (okD fz d && _) = true; rw [h2]; rfl) h1 h3
  exact mem6 (key _ (by kernel_rfl) rfl rfl) (key _ (by kernel_rfl) rfl rfl) (key _ (by kernel_rfl) rfl rfl) (key _ (by kernel_rfl) rfl rfl) (key _ (by kernel_rfl) rfl rfl) (key _ (by kernel_rfl) rfl rfl)
theorem od_pl {d : AD} (h : Od d) : plD 400 d = true := plD_up _ _ (plD_up _ _ (pl_pq _ _ h.1))
section
variable {L : Str} {m d : AD}
theorem both1 (hB : BL L) (hm : Mc L m) (hd : d ∈ x3) {μ : Store} : callP 3 f_look_at_both [m, d, .non] μ = .exc "BadNumber" d μ := by
  obtain ⟨ν, hi⟩ := hB.is
  have h3 := hB.lt.n1
  have pd := od_pl (od3 d hd)
  have a1 : (eCallP 1 f_look_at_machine (aCons (eVar 0) aNil)) [some m, some d, some .non] [] = .ok .non [] := ev_callP (ds := [m]) rfl (machine_ok hi (by omega) hm)
  have a2 : (eCallP 3 f_look_at_number (aCons (eVar 1) (aCons (eC (.int 1)) (aCons (eC (.int 6)) aNil)))) [some m, some d, some .non] [] = .exc "BadNumber" d [] := ev_callP (ds := [d, .int 1, .int 6]) rfl (num_bad d hd [])
  refine callP_exc rfl ?_ (?_ : f_look_at_both [m, d, .non] [] = .exc "BadNumber" d []) pd
  · show (okD 400 m && (okD 400 d && _)) = true
    rw [ok_pl 400 _ (hm.pl' 395), ok_pl 400 _ pd]
    rfl
  have : b_look_at_both [some m, some d, some .non] [] = .exc "BadNumber" d [some m, some d, some .non] [] := (ev_seq (ev_drop a1)).trans (ev_seq_exc (ev_drop_exc a2))
  show R.ofS (b_look_at_both [some m, some d, some .non] []) = _
  rw [this]
  rfl
theorem both2 (hB : BL L) (hm : Mc L m) (hd : d ∈ x3) {μ : Store} : callP 3 f_look_at_both [m, .int 2, d] μ = .exc "BadNumber" d μ := by
  obtain ⟨ν, hi⟩ := hB.is
  have h3 := hB.lt.n1
  have pd := od_pl (od3 d hd)
  have a1 : (eCallP 1 f_look_at_machine (aCons (eVar 0) aNil)) [some m, some (.int 2), some d] [] = .ok .non [] := ev_callP (ds := [m]) rfl (machine_ok hi (by omega) hm)
  have a2 : (eCallP 3 f_look_at_number (aCons (eVar 1) (aCons (eC (.int 1)) (aCons (eC (.int 6)) aNil)))) [some m, some (.int 2), some d] [] = .ok .non [] := ev_callP (ds := [.int 2, .int 1, .int 6]) rfl (num_ok (by decide) (by decide))
  have a3 : (eCallP 3 f_look_at_number (aCons (eVar 2) (aCons (eC (.int 1)) (aCons (eC (.int 6)) aNil)))) [some m, some (.int 2), some d] [] = .exc "BadNumber" d [] := ev_callP (ds := [d, .int 1, .int 6]) rfl (num_bad d hd [])
  refine callP_exc rfl ?_ (?_ : f_look_at_both [m, .int 2, d] [] = .exc "BadNumber" d []) pd
  · show (okD 400 m && (true && (okD 400 d && _))) = true
    rw [ok_pl 400 _ (hm.pl' 395), ok_pl 400 _ pd]
    rfl
  have : b_look_at_both [some m, some (.int 2), some d] [] = .exc "BadNumber" d [some m, some (.int 2), some d] [] := (ev_seq (ev_drop a1)).trans ((ev_seq (ev_drop a2)).trans (ev_drop_exc a3))
  show R.ofS (b_look_at_both [some m, some (.int 2), some d] []) = _
  rw [this]
  rfl
theorem exM (hB : BL L) (hm : Mc L m) (hd : d ∈ x3) : l_7 [m, d] [] = .exc "BadNumber" d [] ∧ l_8 [m, d] [] = .exc "BadNumber" d [] ∧ l_9 [m, d] [] = .exc "BadNumber" d [] ∧ l_10 [m, d] [] = .exc "BadNumber" d [] := by
  have pd := od_pl (od3 d hd)
  have om := ok_pl 400 _ (hm.pl' 395)
  have o1 : ([m, d, .non] : List AD).all (okD fz) = true := by show (okD 400 m && (okD 400 d && _)) = true; rw [om, ok_pl 400 _ pd]; rfl
  have o2 : ([m, .int 2, d] : List AD).all (okD fz) = true := by show (okD 400 m && (true && (okD 400 d && _))) = true; rw [om, ok_pl 400 _ pd]; rfl
  have o3 : ([m, d, .non, .non] : List AD).all (okD fz) = true := by show (okD 400 m && (okD 400 d && _)) = true; rw [om, ok_pl 400 _ pd]; rfl
  have o4 : ([m, .int 2, d, .non] : List AD).all (okD fz) = true := by show (okD 400 m && (true && (okD 400 d && _))) = true; rw [om, ok_pl 400 _ pd]; rfl
  have fe : (aCons (eVar 0) (aCons (eVar 1) (aCons (eVar 2) aNil))) [some m, some d, some .non] [] = .ok [m, d, .non] [] := rfl
  refine ⟨?_, ?_, ?_, ?_⟩
  · refine ev_callP (fa := (aCons (eVar 0) (aCons (eVar 1) (aCons (eC .non) aNil)))) (s := [some m, some d]) (ds := [m, d, .non]) rfl (callP_exc (μ' := []) rfl o1 ?_ pd)
    have : b_by_looks [some m, some d, some .non] [] = .exc "BadNumber" d [some m, some d, some .non] [] := ev_seq_exc (ev_drop_exc (ev_callP (ds := [m, d, .non]) rfl (both1 hB hm hd)))
    show R.ofS (b_by_looks [some m, some d, some .non] []) = _
    rw [this]
    rfl
  · refine ev_callP (fa := (aCons (eVar 0) (aCons (eC (.int 2)) (aCons (eVar 1) aNil)))) (s := [some m, some d]) (ds := [m, .int 2, d]) rfl (callP_exc (μ' := []) rfl o2 ?_ pd)
    have : b_by_looks [some m, some (.int 2), some d] [] = .exc "BadNumber" d [some m, some (.int 2), some d] [] := ev_seq_exc (ev_drop_exc (ev_callP (ds := [m, .int 2, d]) rfl (both2 hB hm hd)))
    show R.ofS (b_by_looks [some m, some (.int 2), some d] []) = _
    rw [this]
    rfl
  · refine ev_callP (fa := (aCons (eVar 0) (aCons (eVar 1) (aCons (eC .non) (aCons (eC .non) aNil))))) (s := [some m, some d]) (ds := [m, d, .non, .non]) rfl (callP_exc (μ' := []) rfl o3 ?_ pd)
    have : b_shows_by_looks [some m, some d, some .non, some .non, none] [] = .exc "BadNumber" d [some m, some d, some .non, some .non, none] [] := ev_seq_exc (ev_drop_exc (ev_callP (ds := [m, d, .non]) rfl (both1 hB hm hd)))
    show R.ofS (b_shows_by_looks [some m, some d, some .non, some .non, none] []) = _
    rw [this]
    rfl
  · refine ev_callP (fa := (aCons (eVar 0) (aCons (eC (.int 2)) (aCons (eVar 1) (aCons (eC .non) aNil))))) (s := [some m, some d]) (ds := [m, .int 2, d, .non]) rfl (callP_exc (μ' := []) rfl o4 ?_ pd)
    have : b_shows_by_looks [some m, some (.int 2), some d, some .non, none] [] = .exc "BadNumber" d [some m, some (.int 2), some d, some .non, none] [] := ev_seq_exc (ev_drop_exc (ev_callP (ds := [m, .int 2, d]) rfl (both2 hB hm hd)))
    show R.ofS (b_shows_by_looks [some m, some (.int 2), some d, some .non, none] []) = _
    rw [this]
    rfl
end
end P

set_option Elab.async false
set_option linter.all false
set_option maxRecDepth 100000
set_option maxHeartbeats 1000000
namespace P
open PySem PySem.Spec PyProof.Rows L2 SC G
theorem san_lists : ∀ ρ : Store, (∀ o ∈ ρ, ∃ ds, o = AO.lst ds) → ∃ ρ', mapO sanO ρ = some ρ'
  | [], _ => ⟨[], rfl⟩
  | o :: r, h => by
    obtain ⟨ρ', e⟩ := san_lists r fun x hx => h x (by simp [hx])
    obtain ⟨ds, rfl⟩ := h o (by simp)
    refine ⟨(if ds.all (noR fz) then AO.lst ds else .any) :: ρ', ?_⟩
    unfold mapO
    rw [e]
    rfl
theorem san_pot {a b c : Int} {ρ : Store} (h : ∀ o ∈ ρ, ∃ ds, o = AO.lst ds) : ∃ ρ', R.san (.rt (.bl true) (potO a b c :: ρ)) = .ok (.bl true) (potO a b c :: ρ') := by
  obtain ⟨ρ', e⟩ := san_lists ρ h
  refine ⟨ρ', ?_⟩
  have e2 : mapO sanO (potO a b c :: ρ) = some (potO a b c :: ρ') := by
    unfold mapO
    rw [e]
    rfl
  show (match mapO sanO (potO a b c :: ρ) with | some μ' => R.ok (AD.bl true) μ' | none => .bad) = _
  rw [e2]
def exL (c : Str) (d : AD) (js : List Nat) : AO := .lst (js.map fun _ => .exc c d)
def trL (js : List Nat) : AO := .lst (List.replicate js.length (.bl true))
def lmL (js : List Nat) : AO := .lst (js.map .lamR)
section
variable {L : Str} {d m : AD} {x3' x4' x5' : Option AD} {μ : Store} {REST : SS}
theorem stA (hd : d ∈ x1) : (sSeq b__law_are_refused_1 (sSeq b__law_are_refused_2 (sSeq b__law_are_refused_3 (sSeq b__law_are_refused_4 REST)))) [some (.ref 0), some (.str L), some d, x3', x4', x5', none, none] μ = REST (S8 (.str L) d μ.length (some (.ref (μ.length + 1))) x5') (μ ++ [lmL [0, 1], exL "BadLetters" d [0, 1], trL [0, 1]]) := by
  have od := od1 d hd
  have ex := exA d hd
  have cp : ([d] : List AD).all (plD 399) = true := by rw [List.all_cons, plD_up _ _ (pl_pq _ _ od.1)]; rfl
  refine (ev_seq own_lam).trans ?_
  refine (ev_seq (app_lam (s := S8 (.str L) d μ.length x4' x5') rfl (by decide))).trans ?_
  exact stage (js := [0, 1]) (cap := cap__law_are_refused) (c := "BadLetters") (by rfl) od.1 od.2 (fun j hj => by
    simp only [List.mem_cons, List.not_mem_nil, or_false] at hj
    rcases hj with rfl | rfl
    · exact ⟨[2], [d], l_0, rfl, rfl, cp, rfl, ex.1⟩
    · exact ⟨[2], [d], l_1, rfl, rfl, cp, rfl, ex.2⟩) (by decide)
theorem stB (hB : BL L) (hd : d ∈ x2 L) : (sSeq b__law_are_refused_6 (sSeq b__law_are_refused_7 (sSeq b__law_are_refused_8 (sSeq b__law_are_refused_9 (sSeq b__law_are_refused_10 REST))))) [some (.ref 0), some (.str L), some d, x3', x4', x5', none, none] μ = REST (S8 (.str L) d μ.length (some (.ref (μ.length + 1))) x5') (μ ++ [lmL [2, 3, 4], exL "BadWord" d [2, 3, 4], trL [2, 3, 4]]) := by
  have od := hB.od d hd
  have ex := hB.exB d hd
  have cp : ([.str L, d] : List AD).all (plD 399) = true := by rw [List.all_cons, List.all_cons, plD_up _ _ (pl_pq _ _ od.1)]; rfl
  refine (ev_seq own_lam).trans ?_
  refine (ev_seq (app_lam (s := S8 (.str L) d μ.length x4' x5') rfl (by decide))).trans ?_
  refine (ev_seq (app_lam (s := S8 (.str L) d μ.length x4' x5') rfl (by decide))).trans ?_
  exact stage (js := [2, 3, 4]) (cap := cap__law_are_refused) (c := "BadWord") (by rfl) od.1 od.2 (fun j hj => by
    simp only [List.mem_cons, List.not_mem_nil, or_false] at hj
    rcases hj with rfl | rfl | rfl
    · exact ⟨[1, 2], [.str L, d], l_2, rfl, rfl, cp, rfl, ex.1⟩
    · exact ⟨[1, 2], [.str L, d], l_3, rfl, rfl, cp, rfl, ex.2.1⟩
    · exact ⟨[1, 2], [.str L, d], l_4, rfl, rfl, cp, rfl, ex.2.2⟩) (by decide)
theorem stC (hB : BL L) (hd : d ∈ x3) (hm : Mc L m) : (sSeq b__law_are_refused_13 (sSeq b__law_are_refused_14 (sSeq b__law_are_refused_15 (sSeq b__law_are_refused_16 (sSeq b__law_are_refused_17 (sSeq b__law_are_refused_18 (sSeq b__law_are_refused_19 b__law_are_refused_20))))))) [some (.ref 0), some (.str L), some d, x3', x4', some m, none, none] μ = .rt (.bl true) (μ ++ [lmL [5, 6, 7, 8, 9, 10], exL "BadNumber" d [5, 6, 7, 8, 9, 10], trL [5, 6, 7, 8, 9, 10]]) := by
  have od := od3 d hd
  have ex := hB.exC d hd
  have em := exM hB hm hd
  have pd := plD_up _ _ (pl_pq _ _ od.1)
  have cp : ([.str L, d] : List AD).all (plD 399) = true := by rw [List.all_cons, List.all_cons, pd]; rfl
  have cm : ([m, d] : List AD).all (plD 399) = true := by rw [List.all_cons, List.all_cons, pd, hm.pl' 394]; rfl
  refine (ev_seq own_lam).trans ?_
  refine (ev_seq (app_lam (s := S8 (.str L) d μ.length x4' (some m)) rfl (by decide))).trans ?_
  refine (ev_seq (app_lam (s := S8 (.str L) d μ.length x4' (some m)) rfl (by decide))).trans ?_
  refine (ev_seq (app_lam (s := S8 (.str L) d μ.length x4' (some m)) rfl (by decide))).trans ?_
  refine (ev_seq (app_lam (s := S8 (.str L) d μ.length x4' (some m)) rfl (by decide))).trans ?_
  refine (ev_seq (app_lam (s := S8 (.str L) d μ.length x4' (some m)) rfl (by decide))).trans ?_
  exact stage_end (js := [5, 6, 7, 8, 9, 10]) (cap := cap__law_are_refused) (c := "BadNumber") (by rfl) od.1 od.2 (fun j hj => by
    simp only [List.mem_cons, List.not_mem_nil, or_false] at hj
    rcases hj with rfl | rfl | rfl | rfl | rfl | rfl
    · exact ⟨[1, 2], [.str L, d], l_5, rfl, rfl, cp, rfl, ex.1⟩
    · exact ⟨[1, 2], [.str L, d], l_6, rfl, rfl, cp, rfl, ex.2⟩
    · exact ⟨[5, 2], [m, d], l_7, rfl, rfl, cm, rfl, em.1⟩
    · exact ⟨[5, 2], [m, d], l_8, rfl, rfl, cm, rfl, em.2.1⟩
    · exact ⟨[5, 2], [m, d], l_9, rfl, rfl, cm, rfl, em.2.2.1⟩
    · exact ⟨[5, 2], [m, d], l_10, rfl, rfl, cm, rfl, em.2.2.2⟩) (by decide)
end
theorem refused {L : Str} (hB : BL L) {n : Nat} {a b c : Int} (p : Pot n a b c) (hn : n + 40 < 900) : ∃ a' c' μ, f__law_are_refused [.ref 0, .str L] [potO a b c] = .ok (.bl true) (potO a' b c' :: μ) := by
  have hl := hB.lt.n1
  obtain ⟨d1, a1, c1, hd1, p1, h1⟩ := nx_draw (k := 2) (j := 0) (xs := x1) (s := [some (.ref 0), some (.str L), none, none, none, none, none, none]) (μ := [potO a b c]) (fa := (aCons (eVar 0) (aCons (eLst (aCons (eC .non) (aCons (eC (.str ("" : Str))) (aCons (eC (.str ("ba" : Str))) (aCons (eC (.str ("aa" : Str))) (aCons (eC (.str ("abcd" : Str))) (aCons (eC (.int 0)) (aCons (eTup (aCons (eC (.str ("a" : Str))) aNil)) aNil)))))))) aNil))) (by kernel_rfl) rfl p (by omega) (by decide) (by decide) (by kernel_rfl)
  obtain ⟨ρ1, hρ1⟩ : ∃ ρ1 : Store, ρ1 = [lmL [0, 1], exL "BadLetters" d1 [0, 1], trL [0, 1]] := ⟨_, rfl⟩
  have hq : ∀ (s : Slots) (μ : Store), s[1]? = some (some (.str L)) → (eOp aAdd (eVar 1) (eC (.str ("q" : Str)))) s μ = .ok (.str (lS (sL L ++ sL "q"))) μ := fun s μ h => by
    refine (ev_op (ev_var h) (e2 := eC (.str ("q" : Str))) (y := .str "q") rfl).trans ?_
    show chk (decide ((sL L).length + 1 ≤ sizeLine)) _ = _
    rw [size_le (by omega)]
    rfl
  obtain ⟨S2, hS2⟩ : ∃ S2 : Slots, S2 = S8 (.str L) d1 1 (some (.ref 2)) none := ⟨_, rfl⟩
  obtain ⟨d2, a2, c2, hd2, p2, h2⟩ := nx_draw (k := 2) (j := 0) (xs := x2 L) (s := S2) (μ := potO a1 b c1 :: ρ1) (fa := (aCons (eVar 0) (aCons (eLst (aCons (eC .non) (aCons (eC (.str ("Q" : Str))) (aCons (eC (.int 0)) (aCons (eTup (aCons (eC (.str ("a" : Str))) aNil)) (aCons (eOp aAdd (eVar 1) (eC (.str ("q" : Str)))) aNil)))))) aNil)))
    (ev_cons (e := eVar 0) (d := .ref 0) (by rw [hS2]; rfl) (ev_cons (f := aNil) (ds := []) (ev_lst (ds := x2 L) (ev_cons (e := eC .non) (d := .non) rfl (ev_cons (e := eC (.str ("Q" : Str))) (d := .str "Q") rfl (ev_cons (e := eC (.int 0)) (d := .int 0) rfl (ev_cons (e := eTup (aCons (eC (.str ("a" : Str))) aNil)) (d := .tup [.str "a"]) (ev_tup (ds := [.str "a"]) rfl (by decide)) (ev_cons (hq S2 _ (by rw [hS2]; rfl)) (f := aNil) (ds := []) rfl))))) (by show 5 < 1000000; decide)) rfl)) rfl p1 (by omega) (by show 0 < 5; decide) (by show 5 < 1000; decide) rfl
  obtain ⟨ρ2, hρ2⟩ : ∃ ρ2 : Store, ρ2 = ρ1 ++ [lmL [2, 3, 4], exL "BadWord" d2 [2, 3, 4], trL [2, 3, 4]] := ⟨_, rfl⟩
  obtain ⟨S3, hS3⟩ : ∃ S3 : Slots, S3 = S8 (.str L) d2 4 (some (.ref 5)) none := ⟨_, rfl⟩
  obtain ⟨d3, a3, c3, hd3, p3, h3⟩ := nx_draw (k := 2) (j := 0) (xs := x3) (s := S3) (μ := potO a2 b c2 :: ρ2) (fa := (aCons (eVar 0) (aCons (eLst (aCons (eC (.int 0)) (aCons (eC (.int 7)) (aCons (eUn uNeg (eC (.int 1))) (aCons (eC .non) (aCons (eC (.bl true)) (aCons (eC (.str ("2" : Str))) aNil))))))) aNil))) (by rw [hS3]; kernel_rfl) rfl p2 (by omega) (by decide) (by decide) (by kernel_rfl)
  obtain ⟨S4, hS4⟩ : ∃ S4 : Slots, S4 = S8 (.str L) d3 4 (some (.ref 5)) none := ⟨_, rfl⟩
  obtain ⟨m, a4, c4, hm, p4, h4⟩ := machineR (most := 3) hl (by decide) (by decide) (j := 0) (fa := (aCons (eVar 0) (aCons (eVar 1) (aCons (eC (.int 3)) aNil)))) (s := S4) (μ := potO a3 b c3 :: ρ2) (a := a3) (b := b) (c := c3) (by rw [hS4]; rfl) rfl p3 (by omega)
  have k : b__law_are_refused [some (.ref 0), some (.str L), none, none, none, none, none, none] [potO a b c] = .rt (.bl true) (potO a4 b c4 :: (ρ2 ++ [lmL [5, 6, 7, 8, 9, 10], exL "BadNumber" d3 [5, 6, 7, 8, 9, 10], trL [5, 6, 7, 8, 9, 10]])) := by
    show (sSeq b__law_are_refused_0 (sSeq b__law_are_refused_1 (sSeq b__law_are_refused_2 (sSeq b__law_are_refused_3 (sSeq b__law_are_refused_4 b__law_are_refused_r5))))) _ _ = _
    refine (ev_seq (h1.trans (rfl : _ = SR.nx [some (.ref 0), some (.str L), some d1, none, none, none, none, none] [potO a1 b c1]))).trans ?_
    refine (stA hd1).trans ?_
    show (sSeq b__law_are_refused_5 (sSeq b__law_are_refused_6 (sSeq b__law_are_refused_7 (sSeq b__law_are_refused_8 (sSeq b__law_are_refused_9 (sSeq b__law_are_refused_10 b__law_are_refused_r11)))))) (S8 (.str L) d1 1 (some (.ref 2)) none) (potO a1 b c1 :: [lmL [0, 1], exL "BadLetters" d1 [0, 1], trL [0, 1]]) = _
    rw [← hS2, ← hρ1]
    refine (ev_seq (h2.trans (by rw [hS2]; rfl : _ = SR.nx [some (.ref 0), some (.str L), some d2, some (.ref 1), some (.ref 2), none, none, none] (potO a2 b c2 :: ρ1)))).trans ?_
    refine (stB hB hd2).trans ?_
    have l1 : (potO a2 b c2 :: ρ1).length = 4 := by rw [hρ1]; rfl
    rw [l1]
    show (sSeq b__law_are_refused_11 (sSeq b__law_are_refused_12 (sSeq b__law_are_refused_13 (sSeq b__law_are_refused_14 (sSeq b__law_are_refused_15 (sSeq b__law_are_refused_16 (sSeq b__law_are_refused_17 (sSeq b__law_are_refused_18 (sSeq b__law_are_refused_19 b__law_are_refused_20))))))))) (S8 (.str L) d2 4 (some (.ref 5)) none) (potO a2 b c2 :: (ρ1 ++ [lmL [2, 3, 4], exL "BadWord" d2 [2, 3, 4], trL [2, 3, 4]])) = _
    rw [← hS3, ← hρ2]
    refine (ev_seq (h3.trans (by rw [hS3, hS4]; rfl : _ = SR.nx S4 (potO a3 b c3 :: ρ2)))).trans ?_
    refine (ev_seq ((ev_set (i := 5) h4).trans (by rw [hS4]; rfl : _ = SR.nx [some (.ref 0), some (.str L), some d3, some (.ref 4), some (.ref 5), some m, none, none] (potO a4 b c4 :: ρ2)))).trans ?_
    exact stC hB hd3 hm
  obtain ⟨ρ', e⟩ := san_pot (a := a4) (b := b) (c := c4) (ρ := ρ2 ++ [lmL [5, 6, 7, 8, 9, 10], exL "BadNumber" d3 [5, 6, 7, 8, 9, 10], trL [5, 6, 7, 8, 9, 10]]) (by
    intro o ho
    rw [hρ2, hρ1] at ho
    simp only [List.mem_append, List.mem_cons, List.not_mem_nil, or_false] at ho
    rcases ho with ((rfl | rfl | rfl) | (rfl | rfl | rfl)) | (rfl | rfl | rfl) <;> exact ⟨_, rfl⟩)
  refine ⟨a4, c4, ρ', ?_⟩
  show R.san (b__law_are_refused [some (.ref 0), some (.str L), none, none, none, none, none, none] [potO a b c]) = _
  rw [k]
  exact e
def xL : List AD := [.str "a", .str "ab", .str "ab", .str "ab", .str "xy", .str "abc"]
theorem letters_ok {n : Nat} {a b c : Int} (p : Pot n a b c) (hn : n < 900) : ∃ (L : Str) (a' c' : Int), BL L ∧ Pot (n + 1) a' b c' ∧ f__law_letters [.ref 0] [potO a b c] = .ok (.str L) [potO a' b c'] := by
  obtain ⟨x, a', c', hx, p', h⟩ := draw_ok (j := 0) (xs := xL) (s := [some (.ref 0)]) (μ := [potO a b c]) (fa := aCons (eVar 0) (aCons (eLst (aCons (eC (.str ("a" : Str))) (aCons (eC (.str ("ab" : Str))) (aCons (eC (.str ("ab" : Str))) (aCons (eC (.str ("ab" : Str))) (aCons (eC (.str ("xy" : Str))) (aCons (eC (.str ("abc" : Str))) aNil))))))) aNil)) (by kernel_rfl) rfl p hn (by decide) (by decide) (by kernel_rfl)
  have key : ∃ L : Str, x = .str L ∧ BL L := by
    simp only [xL, List.mem_cons, List.not_mem_nil, or_false] at hx
    rcases hx with rfl | rfl | rfl | rfl | rfl | rfl
    · exact ⟨_, rfl, bl_a⟩
    · exact ⟨_, rfl, bl_ab⟩
    · exact ⟨_, rfl, bl_ab⟩
    · exact ⟨_, rfl, bl_ab⟩
    · exact ⟨_, rfl, bl_xy⟩
    · exact ⟨_, rfl, bl_abc⟩
  obtain ⟨L, rfl, hB⟩ := key
  refine ⟨L, a', c', hB, p', ?_⟩
  have : b__law_letters [some (.ref 0)] [potO a b c] = .rt (.str L) [potO a' b c'] := ev_ret h
  show R.ofS (b__law_letters [some (.ref 0)] [potO a b c]) = _
  rw [this]
  rfl
theorem right {a b : Int} (p : Pot 0 a b 0) : ∃ a' c' μ, f__law_right [.ref 0] [potO a b 0] = .ok (.bl true) (potO a' b c' :: μ) := by
  obtain ⟨L, a1, c1, hB, p1, h1⟩ := letters_ok p (by decide)
  have s1 : (sSet 1 (eCallR 1 f__law_letters (aCons (eVar 0) aNil))) [some (.ref 0), none, none, none, none, none, none, none, none, none] [potO a b 0] = .nx [some (.ref 0), some (.str L), none, none, none, none, none, none, none, none] [potO a1 b c1] := (ev_set (ev_callR (ds := [.ref 0]) rfl (callR_pot (j := 0) (a := a) (b := b) (c := 0) rfl rfl rfl h1 rfl))).trans rfl
  have rg : (iRng1F (eC (.int 4))) [some (.ref 0), some (.str L), none, none, none, none, none, none, none, none] [potO a1 b c1] = .ok (.fix (rngL 0 4)) [potO a1 b c1] := by kernel_rfl
  obtain ⟨s', μ', hf, x2', x3', x4', x5', x6', x7', x8', x9', a2, c2, ρ, hs', hμ', p2⟩ := ev_forL (I := fun i s μ => ∃ x2 x3 x4 x5 x6 x7 x8 x9 a c ρ, s = [some (.ref 0), some (.str L), x2, x3, x4, x5, x6, x7, x8, x9] ∧ μ = potO a b c :: ρ ∧ Pot (1 + 77 * i) a b c) (g := gN 2) (body := bodyL) rg (fun e he i s μ hi h => by
    obtain ⟨x2, x3, x4, x5, x6, x7, x8, x9, a, c, ρ, rfl, rfl, p⟩ := h
    have hi : i < 4 := hi
    obtain ⟨a', c', ρ', y3, y4, y5, y6, y7, y8, y9, p', h'⟩ := turnL (x2 := some e) (x3 := x3) (x4 := x4) (x5 := x5) (x6 := x6) (x7 := x7) (x8 := x8) (x9 := x9) (ρ := ρ) hB.lt p (by omega)
    exact ⟨_, _, _, _, rfl, h', some e, y3, y4, y5, y6, y7, y8, y9, a', c', ρ', rfl, rfl, pot_up p' (by omega)⟩) ⟨none, none, none, none, none, none, none, none, a1, c1, [], rfl, rfl, p1⟩
  have p2 : Pot 309 a2 b c2 := p2
  obtain ⟨a3, c3, μ3, h3⟩ := refused hB p2 (by decide)
  have rt : (eCallR 2 f__law_are_refused (aCons (eVar 0) (aCons (eVar 1) aNil))) s' μ' = .ok (.bl true) (potO a3 b c3 :: ρ) := by
    rw [hs', hμ']
    exact (ev_callR (ds := [.ref 0, .str L]) rfl (callR_pot (j := 0) rfl rfl rfl h3 rfl)).trans rfl
  have : b__law_right [some (.ref 0), none, none, none, none, none, none, none, none, none] [potO a b 0] = .rt (.bl true) (potO a3 b c3 :: ρ) := (ev_seq s1).trans ((ev_seq hf).trans (ev_ret rt))
  refine ⟨a3, c3, ρ, ?_⟩
  show R.ofS (b__law_right [some (.ref 0), none, none, none, none, none, none, none, none, none] [potO a b 0]) = _
  rw [this]
  rfl
/-- one cell's turn -/
theorem turn (ns : List Int) (pl : Int) (p0 : 0 ≤ pl) (p1 : pl < 1000) (μ : Store) : ∃ a c b : Int, (eCallR 1 f__law_right (aCons (eCallO 2 f__law_pot (aCons (eVar 0) (aCons (eVar 1) aNil))) aNil)) [some (.scr (ns.map AD.int)), some (.int pl)] μ = .ok (.bl true) (μ ++ [potO a b c]) := by
  obtain ⟨a, b, hP, h⟩ := pot_ok ns pl p0 p1 μ
  obtain ⟨a', c', μ', hr⟩ := right hP
  refine ⟨a', c', b, ?_⟩
  have e1 : (eCallO 2 f__law_pot (aCons (eVar 0) (aCons (eVar 1) aNil))) [some (.scr (ns.map AD.int)), some (.int pl)] μ = .ok (.ref μ.length) (μ ++ [potO a b 0]) := h
  have e2 := ev_cons (f := aNil) (ds := []) e1 rfl
  unfold eCallR
  rw [e2]
  show (match (μ ++ [potO a b 0])[μ.length]? with
    | some (AO.lst os) => if ([].all (okD fz) && os.all (okD fz)) = true then back1 μ.length (μ ++ [potO a b 0]) (f__law_right (AD.ref 0 :: []) [AO.lst os]) else R.bad
    | _ => R.bad) = _
  rw [List.getElem?_append_right (Nat.le_refl _), Nat.sub_self]
  show (if ([].all (okD fz) && ([.int a, .int b, .int 0] : List AD).all (okD fz)) = true then back1 μ.length (μ ++ [potO a b 0]) (f__law_right [.ref 0] [potO a b 0]) else R.bad) = _
  rw [if_pos (by rfl), hr]
  show R.ok (AD.bl true) ((μ ++ [potO a b 0]).set μ.length (potO a' b c')) = _
  rw [List.set_append_right _ _ (Nat.le_refl _), Nat.sub_self]
  rfl
theorem law_ok (ns : List Int) : ∃ μ, f_law [.scr (ns.map AD.int)] [] = .ok (.bl true) μ := by
  obtain ⟨m, hm, hc⟩ := cells_ok ns
  have e0 : (iSeq (eCallP 2 f__law_cells (aCons (eVar 0) (aCons (eC (.int 3)) aNil)))) [some (.scr (ns.map AD.int)), none] [] = .ok (.fix (rngL 0 m)) [] := by
    have ok : ([.scr (ns.map AD.int), .int 3] : List AD).all (okD fz) = true := by
      show ((ns.map AD.int).all (okD 399) && _) = true
      rw [int_all (k := 398)]
      rfl
    have e1 : (eCallP 2 f__law_cells (aCons (eVar 0) (aCons (eC (.int 3)) aNil))) [some (.scr (ns.map AD.int)), none] [] = back0 true [] (f__law_cells [.scr (ns.map AD.int), .int 3] []) := by
      show (if ([.scr (ns.map AD.int), .int 3] : List AD).all (okD fz) = true then back0 true [] (f__law_cells [.scr (ns.map AD.int), .int 3] []) else .bad) = _
      rw [if_pos ok]
    have e2 : f__law_cells [.scr (ns.map AD.int), .int 3] [] = .ok (.ref 0) [.lst (rngL 0 m)] := hc
    unfold iSeq
    rw [e1, e2]
    rcases hm with rfl | rfl | rfl <;> kernel_rfl
  obtain ⟨S, hS⟩ : ∃ S : Slots, S = [some (.scr (ns.map AD.int)), none] := ⟨_, rfl⟩
  have step : ∀ (i : Int) (r : List AD) (acc : List AD) (μ : Store), 0 ≤ i → i < 1000 → acc.length < 100 → ∃ o : AO, lcL (tgN 1) tYesF (eCallR 1 f__law_right (aCons (eCallO 2 f__law_pot (aCons (eVar 0) (aCons (eVar 1) aNil))) aNil)) 0 S (.int i :: r) (.lst acc :: μ) = lcL (tgN 1) tYesF (eCallR 1 f__law_right (aCons (eCallO 2 f__law_pot (aCons (eVar 0) (aCons (eVar 1) aNil))) aNil)) 0 S r (.lst (acc ++ [.bl true]) :: (μ ++ [o])) := fun i r acc μ i0 i1 ha => by
    obtain ⟨a, c, b, h⟩ := turn ns i i0 i1 (.lst acc :: μ)
    refine ⟨potO a b c, ?_⟩
    subst hS
    show (match (eCallR 1 f__law_right (aCons (eCallO 2 f__law_pot (aCons (eVar 0) (aCons (eVar 1) aNil))) aNil)) [some (.scr (ns.map AD.int)), some (.int i)] (.lst acc :: μ) with
      | R.ok y μ2 => (match μ2[0]? with
        | some (AO.lst acc) => chk (decide (acc.length < sizeLine)) (lcL (tgN 1) tYesF (eCallR 1 f__law_right (aCons (eCallO 2 f__law_pot (aCons (eVar 0) (aCons (eVar 1) aNil))) aNil)) 0 [some (.scr (ns.map AD.int)), none] r (μ2.set 0 (AO.lst (acc ++ [y]))))
        | _ => R.bad)
      | _ => R.bad) = _
    rw [h]
    show chk (decide (acc.length < sizeLine)) _ = _
    rw [decide_eq_true (by rw [sizeLine_eq]; omega)]
    rfl
  have fin : ∃ μ, lcL (tgN 1) tYesF (eCallR 1 f__law_right (aCons (eCallO 2 f__law_pot (aCons (eVar 0) (aCons (eVar 1) aNil))) aNil)) 0 S (rngL 0 m) [.lst []] = .ok (.ref 0) (.lst (List.replicate m (.bl true)) :: μ) := by
    rcases hm with rfl | rfl | rfl
    · obtain ⟨o, h⟩ := step 0 [] [] [] (by decide) (by decide) (by decide)
      exact ⟨_, h⟩
    · obtain ⟨o, h⟩ := step 0 [.int 1] [] [] (by decide) (by decide) (by decide)
      obtain ⟨o2, h2⟩ := step 1 [] [.bl true] [o] (by decide) (by decide) (by decide)
      exact ⟨_, h.trans h2⟩
    · obtain ⟨o, h⟩ := step 0 [.int 1, .int 2] [] [] (by decide) (by decide) (by decide)
      obtain ⟨o2, h2⟩ := step 1 [.int 2] [.bl true] [o] (by decide) (by decide) (by decide)
      obtain ⟨o3, h3⟩ := step 2 [] [.bl true, .bl true] [o, o2] (by decide) (by decide) (by decide)
      exact ⟨_, (h.trans h2).trans h3⟩
  obtain ⟨μ, hf⟩ := fin
  refine ⟨.lst (List.replicate m (.bl true)) :: μ, ?_⟩
  have e1 : (eLc (iSeq (eCallP 2 f__law_cells (aCons (eVar 0) (aCons (eC (.int 3)) aNil)))) [1] (tgN 1) tYesF (eCallR 1 f__law_right (aCons (eCallO 2 f__law_pot (aCons (eVar 0) (aCons (eVar 1) aNil))) aNil))) S [] = .ok (.ref 0) (.lst (List.replicate m (.bl true)) :: μ) := by
    unfold eLc
    rw [hS, e0, ← hS]
    subst hS
    exact hf
  have e2 : (eB (b1 (gBls allB)) (aCons (eLc (iSeq (eCallP 2 f__law_cells (aCons (eVar 0) (aCons (eC (.int 3)) aNil)))) [1] (tgN 1) tYesF (eCallR 1 f__law_right (aCons (eCallO 2 f__law_pot (aCons (eVar 0) (aCons (eVar 1) aNil))) aNil))) aNil)) S [] = .ok (.bl true) (.lst (List.replicate m (.bl true)) :: μ) := (ev_b1 (u := gBls allB) e1).trans (by rcases hm with rfl | rfl | rfl <;> rfl)
  subst hS
  show R.ofS (b_law [some (.scr (ns.map AD.int)), none] []) = _
  have : b_law [some (.scr (ns.map AD.int)), none] [] = .rt (.bl true) (.lst (List.replicate m (.bl true)) :: μ) := ev_ret e2
  rw [this]
  rfl
end P

set_option Elab.async false
set_option linter.all false
set_option maxRecDepth 100000
set_option maxHeartbeats 0
namespace HT
open PySem PySem.Spec PyProof.Rows L2 LamX NdefX
def d__law_cells : He.DefD := ⟨("_law_cells", none), "_law_cells", "_law_cells", defArgs G.s__law_cells, defBody G.s__law_cells, defScope G.s__law_cells, [], []⟩
def d__law_pot : He.DefD := ⟨("_law_pot", none), "_law_pot", "_law_pot", defArgs G.s__law_pot, defBody G.s__law_pot, defScope G.s__law_pot, [], []⟩
def d__law_take : He.DefD := ⟨("_law_take", none), "_law_take", "_law_take", defArgs G.s__law_take, defBody G.s__law_take, defScope G.s__law_take, [], []⟩
def d__law_drawn : He.DefD := ⟨("_law_drawn", none), "_law_drawn", "_law_drawn", defArgs G.s__law_drawn, defBody G.s__law_drawn, defScope G.s__law_drawn, [], []⟩
def d_is_rising : He.DefD := ⟨("is_rising", none), "is_rising", "is_rising", defArgs G.s_is_rising, defBody G.s_is_rising, defScope G.s_is_rising, [], []⟩
def d_is_letters : He.DefD := ⟨("is_letters", none), "is_letters", "is_letters", defArgs G.s_is_letters, defBody G.s_is_letters, defScope G.s_is_letters, [], []⟩
def d_look_at_letters : He.DefD := ⟨("look_at_letters", none), "look_at_letters", "look_at_letters", defArgs G.s_look_at_letters, defBody G.s_look_at_letters, defScope G.s_look_at_letters, [], []⟩
def d_is_int : He.DefD := ⟨("is_int", none), "is_int", "is_int", defArgs G.s_is_int, defBody G.s_is_int, defScope G.s_is_int, [], []⟩
def d_look_at_number : He.DefD := ⟨("look_at_number", none), "look_at_number", "look_at_number", defArgs G.s_look_at_number, defBody G.s_look_at_number, defScope G.s_look_at_number, [], []⟩
def d_is_word : He.DefD := ⟨("is_word", none), "is_word", "is_word", defArgs G.s_is_word, defBody G.s_is_word, defScope G.s_is_word, [], []⟩
def d_look_at_word : He.DefD := ⟨("look_at_word", none), "look_at_word", "look_at_word", defArgs G.s_look_at_word, defBody G.s_look_at_word, defScope G.s_look_at_word, [], []⟩
def d_look_of : He.DefD := ⟨("look_of", none), "look_of", "look_of", defArgs G.s_look_of, defBody G.s_look_of, defScope G.s_look_of, [], []⟩
def d_told_look : He.DefD := ⟨("told_look", none), "told_look", "told_look", defArgs G.s_told_look, defBody G.s_told_look, defScope G.s_told_look, [], []⟩
def d_same_look : He.DefD := ⟨("same_look", none), "same_look", "same_look", defArgs G.s_same_look, defBody G.s_same_look, defScope G.s_same_look, [], []⟩
def d_is_state : He.DefD := ⟨("is_state", none), "is_state", "is_state", defArgs G.s_is_state, defBody G.s_is_state, defScope G.s_is_state, [], []⟩
def d_is_machine : He.DefD := ⟨("is_machine", none), "is_machine", "is_machine", defArgs G.s_is_machine, defBody G.s_is_machine, defScope G.s_is_machine, [], []⟩
def d_look_at_machine : He.DefD := ⟨("look_at_machine", none), "look_at_machine", "look_at_machine", defArgs G.s_look_at_machine, defBody G.s_look_at_machine, defScope G.s_look_at_machine, [], []⟩
def d_look_at_both : He.DefD := ⟨("look_at_both", none), "look_at_both", "look_at_both", defArgs G.s_look_at_both, defBody G.s_look_at_both, defScope G.s_look_at_both, [], []⟩
def d_by_looks : He.DefD := ⟨("by_looks", none), "by_looks", "by_looks", defArgs G.s_by_looks, defBody G.s_by_looks, defScope G.s_by_looks, [], []⟩
def d_shows_by_looks : He.DefD := ⟨("shows_by_looks", none), "shows_by_looks", "shows_by_looks", defArgs G.s_shows_by_looks, defBody G.s_shows_by_looks, defScope G.s_shows_by_looks, [], []⟩
def d__law_heard : He.DefD := ⟨("_law_heard", none), "_law_heard", "_law_heard", defArgs G.s__law_heard, defBody G.s__law_heard, defScope G.s__law_heard, [], []⟩
def d__law_of : He.DefD := ⟨("_law_of", none), "_law_of", "_law_of", defArgs G.s__law_of, defBody G.s__law_of, defScope G.s__law_of, [], []⟩
def d__law_are_refused : He.DefD := ⟨("_law_are_refused", none), "_law_are_refused", "_law_are_refused", defArgs G.s__law_are_refused, defBody G.s__law_are_refused, defScope G.s__law_are_refused, [], []⟩
def d__law_drawn_word : He.DefD := ⟨("_law_drawn_word", none), "_law_drawn_word", "_law_drawn_word", defArgs G.s__law_drawn_word, defBody G.s__law_drawn_word, defScope G.s__law_drawn_word, [], []⟩
def d__law_is_bool : He.DefD := ⟨("_law_is_bool", none), "_law_is_bool", "_law_is_bool", defArgs G.s__law_is_bool, defBody G.s__law_is_bool, defScope G.s__law_is_bool, [], []⟩
def d__law_letters : He.DefD := ⟨("_law_letters", none), "_law_letters", "_law_letters", defArgs G.s__law_letters, defBody G.s__law_letters, defScope G.s__law_letters, [], []⟩
def d__law_look : He.DefD := ⟨("_law_look", none), "_law_look", "_law_look", defArgs G.s__law_look, defBody G.s__law_look, defScope G.s__law_look, [], []⟩
def d__law_right : He.DefD := ⟨("_law_right", none), "_law_right", "_law_right", defArgs G.s__law_right, defBody G.s__law_right, defScope G.s__law_right, [], []⟩
def d_law : He.DefD := ⟨("law", none), "law", "law", defArgs G.s_law, defBody G.s_law, defScope G.s_law, [], []⟩
def fn : List He.DefD := [d__law_cells, d__law_pot, d__law_take, d__law_drawn, d_is_rising, d_is_letters, d_look_at_letters, d_is_int, d_look_at_number, d_is_word, d_look_at_word, d_look_of, d_told_look, d_same_look, d_is_state, d_is_machine, d_look_at_machine, d_look_at_both, d_by_looks, d_shows_by_looks, d__law_heard, d__law_of, d__law_are_refused, d__law_drawn_word, d__law_is_bool, d__law_letters, d__law_look, d__law_right, d_law]
def fa : List He.Fa := [.glo "_law_cells", .glo "_law_pot", .glo "_law_take", .glo "_law_drawn", .glo "is_rising", .glo "is_letters", .glo "look_at_letters", .glo "is_int", .glo "look_at_number", .glo "is_word", .glo "look_at_word", .glo "look_of", .glo "told_look", .glo "same_look", .glo "is_state", .glo "is_machine", .glo "look_at_machine", .glo "look_at_both", .glo "by_looks", .glo "shows_by_looks", .glo "_law_heard", .glo "_law_of", .glo "_law_are_refused", .glo "_law_drawn_word", .glo "_law_is_bool", .glo "_law_letters", .glo "_law_look", .glo "_law_right", .glo "law", .glo "BadLetters", .glo "BadWord", .glo "BadNumber", .glo "BadMachine", .glo "PieceError", .free "abs", .free "all", .free "bool", .free "int", .free "isinstance", .free "len", .free "list", .free "max", .free "min", .free "range", .free "repr", .free "sorted", .free "str", .free "sum", .free "tuple", .free "zip", .free "super", .int "MOST_K" 6, .int "MOST_LETTERS" 3, .int "MOST_STATES" 200, .int "MOST_T" 6, .int "MOST_WORD" 5000, .str "SIGNS" "abcdefghijklmnopqrstuvwxyz"]
abbrev R : PySem.W.OpenRow := PySem.W.OpenLaw.row PySem.Challenge.rw_kindsofsaying_k13_looks_of_words
def ex : PySem.W.Frag → Bool := SC.exB G.file G.cls G.used G.tf
def iv : SC.IFn := some ("__init__", "PieceError.__init__", SCX.iA ⟨4, 17, 4, 21⟩ ⟨4, 23, 4, 28⟩, .stmts (SCX.iB ⟨5, 8, 5, 13⟩ ⟨5, 8, 5, 15⟩ ⟨5, 8, 5, 24⟩ ⟨5, 25, 5, 30⟩ ⟨5, 8, 5, 31⟩ ⟨5, 8, 5, 31⟩ ⟨6, 8, 6, 12⟩ ⟨6, 8, 6, 18⟩ ⟨6, 21, 6, 26⟩ ⟨6, 8, 6, 26⟩), SCX.iS, mainGlobals, ["__class__"], builtinsNs)
abbrev hk : PySem.W.Hook := SC.hookZ 4 fa fn G.tf ex iv
def ob (s : PySem.W.SharedT) : SC.AlZ := SC.obsZ 4 fa fn G.tf ex (HandSHeadRun.getT s)
theorem ob_eq (s : PySem.W.SharedT) : ob s = hk.obs s.abs := SC.obsZ_eq (HandSHeadRun.getT_eq s)
def loose : List PySem.Str := (["__name__", "PieceError", "BadLetters", "BadWord", "BadMachine", "BadNumber", "TooMany", "SIGNS", "MOST_LETTERS", "MOST_WORD", "is_int", "look_at_number", "is_rising", "is_letters", "look_at_letters", "is_word", "look_at_word", "MOST_STATES", "is_state", "is_machine", "look_at_machine", "reached", "classes_of", "told_least", "MOST_K", "MOST_T", "MOST_LOOKS", "look_of", "told_look", "look_behind"] : List PySem.Str) ++ (["same_look", "all_looks", "unlike_words", "had_looks", "told_by_looks", "look_at_both", "by_looks", "is_piece_told", "shows_by_looks", "are_looks", "are_unlike", "ends_well", "_law_pot", "_law_take", "_law_of", "_law_cells", "_law_heard", "_law_is_bool", "_law_letters", "_law_drawn", "_law_drawn_word", "_law_look", "_law_are_refused", "_law_right"] : List PySem.Str)
theorem run (w : World) : HandSHeadRun.RunEq R (PySem.W.view R.prog [58]) hk ob 4000 loose w := by
  intro os
  kernel_rfl
theorem bundle {w : World} {K : PySem.W.Frag} {h base : Heap} {mg : Str → Option Value} (X : K.In h) (N : h.Ns mainGlobals mg) (c : SC.SaysZ fa fn G.tf ex iv w h K) (tb : ∀ p ∈ G.tf, TabB base mg (He.cT K p).1 (He.cT K p).2) : G.Bu (PySem.Challenge.rw_kindsofsaying_k13_looks_of_words).prog w K mg base where
  x := SC.exB_ok c.more
  bt := SC.baseT_of c.ini (SC.exB_ok c.more).base (fun _ _ _ L => ⟨_, rfl⟩) (He.free_ok X N (c.t.d.fact 50 (f := .free "super") rfl)) (by decide +kernel)
  tb := tb
  g_PieceError := He.glo_ok X N (c.t.d.fact 33 (f := .glo "PieceError") rfl)
  g_BadLetters := He.glo_ok X N (c.t.d.fact 29 (f := .glo "BadLetters") rfl)
  g_BadWord := He.glo_ok X N (c.t.d.fact 30 (f := .glo "BadWord") rfl)
  g_BadNumber := He.glo_ok X N (c.t.d.fact 31 (f := .glo "BadNumber") rfl)
  g_BadMachine := He.glo_ok X N (c.t.d.fact 32 (f := .glo "BadMachine") rfl)
  n_abs := He.free_ok X N (c.t.d.fact 34 (f := .free "abs") rfl)
  n_all := He.free_ok X N (c.t.d.fact 35 (f := .free "all") rfl)
  n_bool := He.free_ok X N (c.t.d.fact 36 (f := .free "bool") rfl)
  n_int := He.free_ok X N (c.t.d.fact 37 (f := .free "int") rfl)
  n_isinstance := He.free_ok X N (c.t.d.fact 38 (f := .free "isinstance") rfl)
  n_len := He.free_ok X N (c.t.d.fact 39 (f := .free "len") rfl)
  n_list := He.free_ok X N (c.t.d.fact 40 (f := .free "list") rfl)
  n_max := He.free_ok X N (c.t.d.fact 41 (f := .free "max") rfl)
  n_min := He.free_ok X N (c.t.d.fact 42 (f := .free "min") rfl)
  n_range := He.free_ok X N (c.t.d.fact 43 (f := .free "range") rfl)
  n_repr := He.free_ok X N (c.t.d.fact 44 (f := .free "repr") rfl)
  n_sorted := He.free_ok X N (c.t.d.fact 45 (f := .free "sorted") rfl)
  n_str := He.free_ok X N (c.t.d.fact 46 (f := .free "str") rfl)
  n_sum := He.free_ok X N (c.t.d.fact 47 (f := .free "sum") rfl)
  n_tuple := He.free_ok X N (c.t.d.fact 48 (f := .free "tuple") rfl)
  n_zip := He.free_ok X N (c.t.d.fact 49 (f := .free "zip") rfl)
  c_MOST_K := He.int_ok X N (c.t.d.fact 51 (f := .int "MOST_K" 6) rfl)
  c_MOST_LETTERS := He.int_ok X N (c.t.d.fact 52 (f := .int "MOST_LETTERS" 3) rfl)
  c_MOST_STATES := He.int_ok X N (c.t.d.fact 53 (f := .int "MOST_STATES" 200) rfl)
  c_MOST_T := He.int_ok X N (c.t.d.fact 54 (f := .int "MOST_T" 6) rfl)
  c_MOST_WORD := He.int_ok X N (c.t.d.fact 55 (f := .int "MOST_WORD" 5000) rfl)
  c_SIGNS := He.str_ok X N (c.t.d.fact 56 (f := .str "SIGNS" "abcdefghijklmnopqrstuvwxyz") rfl)
  f__law_cells := c.t.d.def_ 0 (d := d__law_cells) rfl
  g__law_cells := He.glo_ok X N (c.t.d.fact 0 (f := .glo "_law_cells") rfl)
  f__law_pot := c.t.d.def_ 1 (d := d__law_pot) rfl
  g__law_pot := He.glo_ok X N (c.t.d.fact 1 (f := .glo "_law_pot") rfl)
  f__law_take := c.t.d.def_ 2 (d := d__law_take) rfl
  g__law_take := He.glo_ok X N (c.t.d.fact 2 (f := .glo "_law_take") rfl)
  f__law_drawn := c.t.d.def_ 3 (d := d__law_drawn) rfl
  g__law_drawn := He.glo_ok X N (c.t.d.fact 3 (f := .glo "_law_drawn") rfl)
  f_is_rising := c.t.d.def_ 4 (d := d_is_rising) rfl
  g_is_rising := He.glo_ok X N (c.t.d.fact 4 (f := .glo "is_rising") rfl)
  f_is_letters := c.t.d.def_ 5 (d := d_is_letters) rfl
  g_is_letters := He.glo_ok X N (c.t.d.fact 5 (f := .glo "is_letters") rfl)
  f_look_at_letters := c.t.d.def_ 6 (d := d_look_at_letters) rfl
  g_look_at_letters := He.glo_ok X N (c.t.d.fact 6 (f := .glo "look_at_letters") rfl)
  f_is_int := c.t.d.def_ 7 (d := d_is_int) rfl
  g_is_int := He.glo_ok X N (c.t.d.fact 7 (f := .glo "is_int") rfl)
  f_look_at_number := c.t.d.def_ 8 (d := d_look_at_number) rfl
  g_look_at_number := He.glo_ok X N (c.t.d.fact 8 (f := .glo "look_at_number") rfl)
  f_is_word := c.t.d.def_ 9 (d := d_is_word) rfl
  g_is_word := He.glo_ok X N (c.t.d.fact 9 (f := .glo "is_word") rfl)
  f_look_at_word := c.t.d.def_ 10 (d := d_look_at_word) rfl
  g_look_at_word := He.glo_ok X N (c.t.d.fact 10 (f := .glo "look_at_word") rfl)
  f_look_of := c.t.d.def_ 11 (d := d_look_of) rfl
  g_look_of := He.glo_ok X N (c.t.d.fact 11 (f := .glo "look_of") rfl)
  f_told_look := c.t.d.def_ 12 (d := d_told_look) rfl
  g_told_look := He.glo_ok X N (c.t.d.fact 12 (f := .glo "told_look") rfl)
  f_same_look := c.t.d.def_ 13 (d := d_same_look) rfl
  g_same_look := He.glo_ok X N (c.t.d.fact 13 (f := .glo "same_look") rfl)
  f_is_state := c.t.d.def_ 14 (d := d_is_state) rfl
  g_is_state := He.glo_ok X N (c.t.d.fact 14 (f := .glo "is_state") rfl)
  f_is_machine := c.t.d.def_ 15 (d := d_is_machine) rfl
  g_is_machine := He.glo_ok X N (c.t.d.fact 15 (f := .glo "is_machine") rfl)
  f_look_at_machine := c.t.d.def_ 16 (d := d_look_at_machine) rfl
  g_look_at_machine := He.glo_ok X N (c.t.d.fact 16 (f := .glo "look_at_machine") rfl)
  f_look_at_both := c.t.d.def_ 17 (d := d_look_at_both) rfl
  g_look_at_both := He.glo_ok X N (c.t.d.fact 17 (f := .glo "look_at_both") rfl)
  f_by_looks := c.t.d.def_ 18 (d := d_by_looks) rfl
  g_by_looks := He.glo_ok X N (c.t.d.fact 18 (f := .glo "by_looks") rfl)
  f_shows_by_looks := c.t.d.def_ 19 (d := d_shows_by_looks) rfl
  g_shows_by_looks := He.glo_ok X N (c.t.d.fact 19 (f := .glo "shows_by_looks") rfl)
  f__law_heard := c.t.d.def_ 20 (d := d__law_heard) rfl
  g__law_heard := He.glo_ok X N (c.t.d.fact 20 (f := .glo "_law_heard") rfl)
  f__law_of := c.t.d.def_ 21 (d := d__law_of) rfl
  g__law_of := He.glo_ok X N (c.t.d.fact 21 (f := .glo "_law_of") rfl)
  f__law_are_refused := c.t.d.def_ 22 (d := d__law_are_refused) rfl
  g__law_are_refused := He.glo_ok X N (c.t.d.fact 22 (f := .glo "_law_are_refused") rfl)
  f__law_drawn_word := c.t.d.def_ 23 (d := d__law_drawn_word) rfl
  g__law_drawn_word := He.glo_ok X N (c.t.d.fact 23 (f := .glo "_law_drawn_word") rfl)
  f__law_is_bool := c.t.d.def_ 24 (d := d__law_is_bool) rfl
  g__law_is_bool := He.glo_ok X N (c.t.d.fact 24 (f := .glo "_law_is_bool") rfl)
  f__law_letters := c.t.d.def_ 25 (d := d__law_letters) rfl
  g__law_letters := He.glo_ok X N (c.t.d.fact 25 (f := .glo "_law_letters") rfl)
  f__law_look := c.t.d.def_ 26 (d := d__law_look) rfl
  g__law_look := He.glo_ok X N (c.t.d.fact 26 (f := .glo "_law_look") rfl)
  f__law_right := c.t.d.def_ 27 (d := d__law_right) rfl
  g__law_right := He.glo_ok X N (c.t.d.fact 27 (f := .glo "_law_right") rfl)
  f_law := c.t.d.def_ 28 (d := d_law) rfl
  g_law := He.glo_ok X N (c.t.d.fact 28 (f := .glo "law") rfl)
end HT

set_option Elab.async false
set_option linter.all false
set_option maxRecDepth 100000
set_option maxHeartbeats 0
namespace EN
open PySem PySem.Spec PyProof.Rows L2 LamX NdefX SC
theorem cx_no {P : Program} {w : World} {H : Hp} {s : Shared} {e : Value} {s' : Shared} (h : L2.CX P w [] H s (fun _ _ _ => False) e s') : False := by
  obtain ⟨_, _, _, _, _, _, _, _, _, _, _, _, z⟩ := h
  exact z
theorem at_law (w : World) (mg : Str → Option Value) (fa : Addr) (h : Heap) (K : PySem.W.Frag) (KX : K.In h) (N : h.Ns mainGlobals mg) (c : SC.SaysZ HT.fa HT.fn G.tf HT.ex HT.iv w h K) (hmg : mg ("law" : Str) = some (.ref fa)) :
    LawAtG PySem.Challenge.rw_kindsofsaying_k13_looks_of_words w K (L2.CX (PySem.Challenge.rw_kindsofsaying_k13_looks_of_words).prog w) 11 63 "script" mg fa h := by
  obtain ⟨fd, FD⟩ := c.t.d.def_ 28 (d := HT.d_law) rfl
  have e := hmg.symm.trans (He.glo_ok KX N (c.t.d.fact 28 (f := .glo "law") rfl))
  cases e
  have b := FunD.bindsA (ps := ["script"]) FD fun _ _ _ _ _ _ us hl => match us, hl with | [_], _ => rfl
  refine ⟨fd, G.tf.map (He.cT K), spF (G.wo (PySem.Challenge.rw_kindsofsaying_k13_looks_of_words).prog w K) G.f_law 1, fun p hp => ?_, fun p hp => ?_, fun p hp => ?_, fun s u => b s [u] rfl, fun H a ns hl hbits ht hS => ?_, fun base hb hn htb => ?_⟩
  · obtain ⟨q, hq, rfl⟩ := List.mem_map.mp hp
    exact c.empty q hq
  · obtain ⟨q, hq, rfl⟩ := List.mem_map.mp hp
    exact c.out q hq
  · obtain ⟨q, hq, rfl⟩ := List.mem_map.mp hp
    exact PySem.W.codeHd_of_K KX (c.hd q hq)
  · refine law_sp (cs := G.tf.map (He.cT K)) (fun p hp => ?_) ht hS (P.law_ok ns)
    obtain ⟨q, hq, rfl⟩ := List.mem_map.mp hp
    exact ⟨He.cT K q, List.mem_map.mpr ⟨q, hq, rfl⟩, rfl⟩
  · exact G.fn_law (HT.bundle KX N c fun p hp => htb _ (List.mem_map.mpr ⟨p, hp, rfl⟩)) FD
end EN
open PySem PySem.W PySem.Calls PyProof.Rows
theorem PySem.Challenge.cw_kindsofsaying_k13_looks_of_words_holds : PySem.Challenge.rw_kindsofsaying_k13_looks_of_words.Holds := by
  w_on; o_law
  refine HandSHeadRun.head_any (r := OpenLaw.row PySem.Challenge.rw_kindsofsaying_k13_looks_of_words) (q := view (OpenLaw.row PySem.Challenge.rw_kindsofsaying_k13_looks_of_words).prog [58]) (H := HT.hk) (ob := HT.ob) (M := 4000) (loose := HT.loose) (d := HandSHeadRun.topDef (OpenLaw.row PySem.Challenge.rw_kindsofsaying_k13_looks_of_words).prog 58) (kwd := []) HT.ob_eq
    (by kernel_rfl) (fun s => by kernel_rfl) HT.run (by kernel_rfl) (by kernel_rfl) (by kernel_rfl) (by rfl) (by first | assumption | decide +kernel) (by decide +kernel) ⟨rfl, rfl, rfl, rfl, rfl, by decide +kernel⟩ ?hw ?hc
  case hw => w_witness2
  case hc =>
    refine SC.walk_GE (l := PySem.Challenge.rw_kindsofsaying_k13_looks_of_words) (n := 63) (k := 11) (x := "script") (CX := fun w => L2.CX (PySem.Challenge.rw_kindsofsaying_k13_looks_of_words).prog w) rfl (by decide) (by kernel_rfl) ⟨⟨rfl, by decide, by decide⟩, rfl⟩ ?F (fun _ _ _ _ _ z => EN.cx_no z)
    intro w mg fa h Y N hmg0
    obtain ⟨K, KX, c⟩ := Y
    have hmg : mg ("law" : PySem.Str) = some (.ref fa) := by
      have e : (HandSHeadRun.topDef (OpenLaw.row PySem.Challenge.rw_kindsofsaying_k13_looks_of_words).prog 58).name = ("law" : PySem.Str) := by kernel_rfl
      rw [← e]
      exact hmg0
    exact ⟨K, KX, EN.at_law w mg fa h K KX N c hmg⟩

